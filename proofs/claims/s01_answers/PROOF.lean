import PyProof.Rows.All
import Wide.All
import OpenK.AllK
import Wide.FinOn
import Open.SpecLaws
import KE.OsGo
import HandS.ForSpec
import HandS.TryMany
import HandS.ForMost
import HandS.More
import HandS.Zip
import HandS.Evl
import HandS.SetFor
import HandS.SortKw
import HandS.Flow
import HandS.Style
import KE.SortKeyHeap
import PyProof.Rows.SetFrom
import PySem.Challenge.RW_clientmoves_s01_answers
import HandS.Strs
import KE.DataFind
import PyProof.EqAt
import PyProof.EqKinds
import PyProof.TupleCall
set_option Elab.async false
set_option linter.all false
set_option maxRecDepth 100000
set_option maxHeartbeats 4000000
namespace Cm
open Vbchaj

/-! ### counting -/
def keysM (ms : List Member) : List Nat := ms.map fun m => m.key
def roomT (ms : List Member) (T : Nat → Bool) : Nat := (ms.map fun m => if T m.key = true then m.room else 0).sum
def keptT (cs : List Client) (T : Nat → Bool) : Nat := cs.countP fun c => c.takers.all T
def cnt (cs : List Client) (f : Nat → Nat) (k : Nat) : Nat := cs.countP fun c => f c.key == k
def cntT (cs : List Client) (f : Nat → Nat) (T : Nat → Bool) : Nat := cs.countP fun c => f c.key != 0 && T (f c.key)
def placedL (cs : List Client) (f : Nat → Nat) : List Client := cs.filter fun c => f c.key != 0

structure Wf (ms : List Member) (cs : List Client) : Prop where
  nk : (ms.map fun m => m.key).Nodup
  ck : (cs.map fun c => c.key).Nodup
  pos : ∀ m ∈ ms, m.key ≠ 0
  tk : ∀ c ∈ cs, ∀ t ∈ c.takers, t ∈ ms.map fun m => m.key

theorem sum_map_add {α : Type} (l : List α) (g h : α → Nat) : (l.map fun a => g a + h a).sum = (l.map g).sum + (l.map h).sum := by
  induction l with
  | nil => rfl
  | cons a l ih => simp only [List.map_cons, List.sum_cons, ih]; omega
theorem sum_map_le {α : Type} (l : List α) (g h : α → Nat) (H : ∀ a ∈ l, g a ≤ h a) : (l.map g).sum ≤ (l.map h).sum := by
  induction l with
  | nil => exact Nat.le_refl _
  | cons a l ih =>
    have h1 := H a List.mem_cons_self
    have h2 := ih fun b hb => H b (List.mem_cons_of_mem _ hb)
    simp only [List.map_cons, List.sum_cons]; omega
theorem sum_map_eq_of {α : Type} (l : List α) (g h : α → Nat) (H : ∀ a ∈ l, g a ≤ h a) (e : (l.map h).sum ≤ (l.map g).sum) : ∀ a ∈ l, h a ≤ g a := by
  induction l with
  | nil => intro a ha; cases ha
  | cons a l ih =>
    have h1 := H a List.mem_cons_self
    have hr : ∀ b ∈ l, g b ≤ h b := fun b hb => H b (List.mem_cons_of_mem _ hb)
    have h2 := sum_map_le l g h hr
    simp only [List.map_cons, List.sum_cons] at e
    intro b hb
    rcases List.mem_cons.mp hb with rfl | hb
    · omega
    · exact ih hr (by omega) b hb
theorem sum_map_congr {α : Type} (l : List α) (g h : α → Nat) (H : ∀ a ∈ l, g a = h a) : (l.map g).sum = (l.map h).sum := by
  rw [List.map_congr_left H]
theorem sum_ind (ms : List Member) (x a : Nat) (h : (ms.map fun m => m.key).Nodup) : (ms.map fun m => if m.key = x then a else 0).sum = if x ∈ ms.map (fun m => m.key) then a else 0 := by
  induction ms with
  | nil => simp
  | cons m ms ih =>
    rw [List.map_cons, List.nodup_cons] at h
    rw [List.map_cons, List.sum_cons, ih h.2]
    by_cases e : m.key = x
    · subst e
      rw [if_pos rfl, if_neg h.1, if_pos (by simp)]; rfl
    · rw [if_neg e]
      by_cases hx : x ∈ ms.map (fun m => m.key)
      · rw [if_pos hx, if_pos (by simp only [List.map_cons, List.mem_cons]; exact .inr hx)]; omega
      · rw [if_neg hx, if_neg (by simp only [List.map_cons, List.mem_cons]; rintro (z | z); exact e z.symm; exact hx z)]
theorem countP_imp_back {α : Type} (l : List α) (p q : α → Bool) (H : ∀ a ∈ l, p a = true → q a = true) (e : l.countP q ≤ l.countP p) : ∀ a ∈ l, q a = true → p a = true := by
  induction l with
  | nil => intro a ha; cases ha
  | cons a l ih =>
    have hr : ∀ b ∈ l, p b = true → q b = true := fun b hb => H b (List.mem_cons_of_mem _ hb)
    have h2 : l.countP p ≤ l.countP q := List.countP_mono_left hr
    have h1 := H a List.mem_cons_self
    rw [List.countP_cons, List.countP_cons] at e
    intro b hb hq
    rcases List.mem_cons.mp hb with rfl | hb
    · cases hp : p b with
      | true => rfl
      | false => rw [hp, hq] at e; simp at e; omega
    · refine ih hr ?_ b hb hq
      cases hp : p a with
      | true => rw [hp, h1 hp] at e; simp at e; omega
      | false => 
        rw [hp] at e
        cases hq' : q a with
        | true => rw [hq'] at e; simp at e; omega
        | false => rw [hq'] at e; simp at e; omega

/-- how many clients are placed within a set of members: by members -/
theorem cntT_eq (ms : List Member) (cs : List Client) (f : Nat → Nat) (T : Nat → Bool) (hm : (ms.map fun m => m.key).Nodup) (hpos : ∀ m ∈ ms, m.key ≠ 0)
    (hf : ∀ c ∈ cs, f c.key ≠ 0 → f c.key ∈ ms.map fun m => m.key) : cntT cs f T = (ms.map fun m => if T m.key = true then cnt cs f m.key else 0).sum := by
  induction cs with
  | nil =>
    have e : ∀ m ∈ ms, (if T m.key = true then cnt [] f m.key else 0) = 0 := fun m _ => by
      split <;> rfl
    rw [List.map_congr_left e]
    show 0 = _
    clear e hm hpos hf
    induction ms with
    | nil => rfl
    | cons m ms ih => rw [List.map_cons, List.sum_cons, ← ih]
  | cons c cs ih =>
    have ih := ih fun d hd => hf d (List.mem_cons_of_mem _ hd)
    have hc := hf c List.mem_cons_self
    have e : ∀ m ∈ ms, (if T m.key = true then cnt (c :: cs) f m.key else 0) = (if T m.key = true then cnt cs f m.key else 0) + (if m.key = f c.key then (if T (f c.key) = true then 1 else 0) else 0) := fun m _ => by
      unfold cnt
      rw [List.countP_cons]
      by_cases h : m.key = f c.key
      · rw [if_pos h, h]
        split <;> simp
      · have h2 : ¬ f c.key = m.key := fun z => h z.symm
        rw [if_neg h]
        split <;> simp [h2]
    rw [List.map_congr_left e, sum_map_add, ← ih, sum_ind _ _ _ hm]
    show (c :: cs).countP _ = cs.countP _ + _
    rw [List.countP_cons]
    congr 1
    by_cases h0 : f c.key = 0
    · have hn : ¬ (f c.key ∈ ms.map fun m => m.key) := fun z => by
        obtain ⟨m, hm1, hm2⟩ := List.mem_map.mp z
        exact hpos m hm1 (hm2.trans h0)
      rw [if_neg hn]
      simp [h0]
    · rw [if_pos (hc h0)]
      simp [h0]

structure Good (ms : List Member) (cs : List Client) (f : Nat → Nat) : Prop where
  ok : ∀ c ∈ cs, f c.key ≠ 0 → f c.key ∈ c.takers
  cap : ∀ m ∈ ms, cnt cs f m.key ≤ m.room

section
variable {ms : List Member} {cs : List Client} {f : Nat → Nat} {T : Nat → Bool}
theorem Good.inM (w : Wf ms cs) (g : Good ms cs f) : ∀ c ∈ cs, f c.key ≠ 0 → f c.key ∈ ms.map fun m => m.key := fun c hc h => w.tk c hc _ (g.ok c hc h)
theorem kept_placed : keptT (placedL cs f) T = cs.countP fun c => c.takers.all T && f c.key != 0 := by
  unfold keptT placedL
  rw [List.countP_filter]
theorem kept_le_cnt (g : Good ms cs f) : keptT (placedL cs f) T ≤ cntT cs f T := by
  rw [kept_placed]
  refine List.countP_mono_left fun c hc h => ?_
  simp only [Bool.and_eq_true, bne_iff_ne, ne_eq, List.all_eq_true] at h ⊢
  exact ⟨h.2, h.1 _ (g.ok c hc h.2)⟩
theorem cnt_le_room (w : Wf ms cs) (g : Good ms cs f) : cntT cs f T ≤ roomT ms T := by
  rw [cntT_eq ms cs f T w.nk w.pos (g.inM w)]
  refine sum_map_le _ _ _ fun m hm => ?_
  split
  · exact g.cap m hm
  · exact Nat.le_refl _
/-- no more are kept than there is room -/
theorem hall (w : Wf ms cs) (g : Good ms cs f) : keptT (placedL cs f) T ≤ roomT ms T := Nat.le_trans (kept_le_cnt g) (cnt_le_room w g)
def Closed (cs : List Client) (f : Nat → Nat) (T : Nat → Bool) : Prop := ∀ c ∈ cs, f c.key ≠ 0 → T (f c.key) = true → c.takers.all T = true
def Full (ms : List Member) (cs : List Client) (f : Nat → Nat) (T : Nat → Bool) : Prop := ∀ m ∈ ms, T m.key = true → m.room ≤ cnt cs f m.key
theorem tight_of (w : Wf ms cs) (g : Good ms cs f) (hc : Closed cs f T) (hf : Full ms cs f T) : keptT (placedL cs f) T = roomT ms T := by
  refine Nat.le_antisymm (hall w g) ?_
  have h1 : roomT ms T ≤ cntT cs f T := by
    rw [cntT_eq ms cs f T w.nk w.pos (g.inM w)]
    refine sum_map_le _ _ _ fun m hm => ?_
    by_cases h : T m.key = true
    · rw [if_pos h, if_pos h]; exact hf m hm h
    · rw [if_neg h]; exact Nat.zero_le _
  refine Nat.le_trans h1 ?_
  rw [kept_placed]
  refine List.countP_mono_left fun c hcs h => ?_
  simp only [Bool.and_eq_true, bne_iff_ne, ne_eq] at h ⊢
  exact ⟨hc c hcs h.1 h.2, h.1⟩
theorem of_tight (w : Wf ms cs) (g : Good ms cs f) (e : roomT ms T ≤ keptT (placedL cs f) T) : Closed cs f T ∧ Full ms cs f T := by
  have h1 := kept_le_cnt g (T := T)
  have h2 := cnt_le_room w g (T := T)
  constructor
  · have q : cs.countP (fun c => f c.key != 0 && T (f c.key)) ≤ cs.countP (fun c => c.takers.all T && f c.key != 0) := by
      rw [← kept_placed]
      exact Nat.le_trans h2 e
    have := countP_imp_back cs (fun c => c.takers.all T && f c.key != 0) (fun c => f c.key != 0 && T (f c.key)) (fun c hc h => by
      simp only [Bool.and_eq_true, bne_iff_ne, ne_eq, List.all_eq_true] at h ⊢
      exact ⟨h.2, h.1 _ (g.ok c hc h.2)⟩) q
    intro c hc h0 hT
    have z := this c hc (by simp [h0, hT])
    simp only [Bool.and_eq_true] at z
    exact z.1
  · have q : roomT ms T ≤ cntT cs f T := Nat.le_trans e h1
    rw [cntT_eq ms cs f T w.nk w.pos (g.inM w)] at q
    have := sum_map_eq_of ms (fun m => if T m.key = true then cnt cs f m.key else 0) (fun m => if T m.key = true then m.room else 0) (fun m hm => by
      by_cases h : T m.key = true
      · rw [if_pos h, if_pos h]; exact g.cap m hm
      · rw [if_neg h]; exact Nat.zero_le _) q
    intro m hm hT
    have z := this m hm
    rw [if_pos hT, if_pos hT] at z
    exact z
end

/-! ### places -/
theorem placeOf_of {p : Places} {k m : Nat} (nd : (p.map fun x => x.1).Nodup) (h : (k, m) ∈ p) : placeOf p k = m := by
  unfold placeOf
  induction p with
  | nil => cases h
  | cons x p ih =>
    rw [List.map_cons, List.nodup_cons] at nd
    rw [List.find?_cons]
    rcases List.mem_cons.mp h with e | h
    · subst e; simp
    · have hne : x.1 ≠ k := fun z => nd.1 (z ▸ List.mem_map.mpr ⟨_, h, rfl⟩)
      have : (x.1 == k) = false := by simp [hne]
      rw [this]
      exact ih nd.2 h
theorem placeOf_mem {p : Places} {k : Nat} (h : placeOf p k ≠ 0) : (k, placeOf p k) ∈ p := by
  unfold placeOf at h ⊢
  cases e : p.find? fun x => x.1 == k with
  | none => rw [e] at h; exact absurd rfl h
  | some x =>
    have h1 := List.mem_of_find?_eq_some e
    have h2 := List.find?_some e
    simp only [beq_iff_eq] at h2
    subst h2
    exact h1

structure GoodP (ms : List Member) (cs : List Client) (p : Places) : Prop where
  nd : (p.map fun x => x.1).Nodup
  mem : ∀ x ∈ p, ∃ c ∈ cs, c.key = x.1 ∧ x.2 ∈ c.takers
  cap : ∀ m ∈ ms, cnt cs (placeOf p) m.key ≤ m.room
section
variable {ms : List Member} {cs : List Client} {p : Places}
theorem key_inj (w : (cs.map fun c => c.key).Nodup) {c d : Client} (hc : c ∈ cs) (hd : d ∈ cs) (e : c.key = d.key) : c = d := by
  induction cs with
  | nil => cases hc
  | cons a cs ih =>
    rw [List.map_cons, List.nodup_cons] at w
    rcases List.mem_cons.mp hc with h1 | h1 <;> rcases List.mem_cons.mp hd with h2 | h2
    · rw [h1, h2]
    · subst h1; exact absurd (List.mem_map.mpr ⟨d, h2, e.symm⟩) w.1
    · subst h2; exact absurd (List.mem_map.mpr ⟨c, h1, e⟩) w.1
    · exact ih w.2 h1 h2
theorem Wf.tpos (w : Wf ms cs) {c : Client} (hc : c ∈ cs) {t : Nat} (ht : t ∈ c.takers) : t ≠ 0 := by
  obtain ⟨m, h1, h2⟩ := List.mem_map.mp (w.tk c hc t ht)
  exact h2 ▸ w.pos m h1
theorem GoodP.pos (w : Wf ms cs) (g : GoodP ms cs p) {x : Nat × Nat} (h : x ∈ p) : x.2 ≠ 0 := by
  obtain ⟨c, hc, _, ht⟩ := g.mem x h
  exact w.tpos hc ht
theorem GoodP.good (w : Wf ms cs) (g : GoodP ms cs p) : Good ms cs (placeOf p) where
  ok := fun c hc h => by
    obtain ⟨d, hd, e, ht⟩ := g.mem _ (placeOf_mem h)
    obtain rfl := key_inj w.ck hc hd e.symm
    exact ht
  cap := g.cap
theorem nodup_map_of {α β : Type} (g : α → β) : ∀ {l : List α}, (l.map g).Nodup → l.Nodup
  | [], _ => List.nodup_nil
  | a :: l, h => by
    rw [List.map_cons, List.nodup_cons] at h
    exact List.nodup_cons.mpr ⟨fun m => h.1 (List.mem_map.mpr ⟨a, m, rfl⟩), nodup_map_of g h.2⟩
theorem nodup_filter_map {α β : Type} (g : α → β) (q : α → Bool) {l : List α} (h : (l.map g).Nodup) : ((l.filter q).map g).Nodup :=
  h.sublist ((List.filter_sublist (p := q) (l := l)).map g)
/-- the places' keys are those of the clients placed -/
theorem keys_perm (w : Wf ms cs) (nd : (p.map fun x => x.1).Nodup) (mem : ∀ x ∈ p, ∃ c ∈ cs, c.key = x.1 ∧ x.2 ∈ c.takers) (q : Nat → Bool) (hq : q 0 = false) :
    ((p.filter fun x => q x.2).map fun x => x.1).Perm ((cs.filter fun c => q (placeOf p c.key)).map fun c => c.key) := by
  refine (List.perm_ext_iff_of_nodup (nodup_filter_map _ _ nd) (nodup_filter_map _ _ w.ck)).mpr fun k => ?_
  constructor
  · intro h
    obtain ⟨x, hx, rfl⟩ := List.mem_map.mp h
    obtain ⟨h1, h2⟩ := List.mem_filter.mp hx
    obtain ⟨c, hc, e, _⟩ := mem x h1
    refine List.mem_map.mpr ⟨c, List.mem_filter.mpr ⟨hc, ?_⟩, e⟩
    rw [e, placeOf_of nd h1]; exact h2
  · intro h
    obtain ⟨c, hc, rfl⟩ := List.mem_map.mp h
    obtain ⟨h1, h2⟩ := List.mem_filter.mp hc
    have h0 : placeOf p c.key ≠ 0 := fun z => by rw [z, hq] at h2; cases h2
    exact List.mem_map.mpr ⟨_, List.mem_filter.mpr ⟨placeOf_mem h0, h2⟩, rfl⟩
theorem taken_cnt (w : Wf ms cs) (nd : (p.map fun x => x.1).Nodup) (mem : ∀ x ∈ p, ∃ c ∈ cs, c.key = x.1 ∧ x.2 ∈ c.takers) {m : Nat} (hm : m ≠ 0) : takenAt p m = cnt cs (placeOf p) m := by
  have h := (keys_perm w nd mem (fun y => y == m) (by simp; exact fun z => hm z.symm)).length_eq
  rw [List.length_map, List.length_map] at h
  unfold takenAt cnt
  rw [List.countP_eq_length_filter]
  exact h
theorem len_placed (w : Wf ms cs) (g : GoodP ms cs p) : p.length = (placedL cs (placeOf p)).length := by
  have h := (keys_perm w g.nd g.mem (fun y => y != 0) (by rfl)).length_eq
  rw [List.length_map, List.length_map] at h
  rw [show p.filter (fun x => x.2 != 0) = p from List.filter_eq_self.mpr fun x hx => by simp [g.pos w hx]] at h
  exact h
theorem roomOf_mem (hm : (ms.map fun m => m.key).Nodup) {m : Member} (h : m ∈ ms) : roomOf ms m.key = m.room := by
  unfold roomOf
  induction ms with
  | nil => cases h
  | cons a ms ih =>
    rw [List.map_cons, List.nodup_cons] at hm
    rw [List.find?_cons]
    rcases List.mem_cons.mp h with rfl | h
    · simp
    · have hne : a.key ≠ m.key := fun z => hm.1 (List.mem_map.mpr ⟨_, h, z.symm⟩)
      have : (a.key == m.key) = false := by simp [hne]
      rw [this]
      exact ih hm.2 h
end
end Cm
namespace Cm
open Vbchaj

/-! ### reach -/
def over (f : Nat → Nat) (way : Places) (k : Nat) : Nat := match way.find? fun y => y.1 == k with
  | some y => y.2
  | none => f k
theorem over_cons (f : Nat → Nat) (way : Places) (c m k : Nat) : over f ((c, m) :: way) k = if c = k then m else over f way k := by
  unfold over
  rw [List.find?_cons]
  by_cases e : c = k
  · subst e; simp
  · have : (c == k) = false := by simp [e]
    rw [this, if_neg e]
theorem over_not {f : Nat → Nat} {way : Places} {k : Nat} (h : k ∉ way.map fun y => y.1) : over f way k = f k := by
  unfold over
  have : way.find? (fun y => y.1 == k) = none := List.find?_eq_none.mpr fun y hy z => by
    simp only [beq_iff_eq] at z
    exact h (List.mem_map.mpr ⟨y, hy, z⟩)
  rw [this]
theorem cnt_congr {cs : List Client} {f g : Nat → Nat} {k : Nat} (h : ∀ c ∈ cs, f c.key = g c.key) : cnt cs f k = cnt cs g k := by
  unfold cnt
  refine List.countP_congr fun c hc => ?_
  rw [h c hc]
theorem cnt_put {cs : List Client} (nd : (cs.map fun c => c.key).Nodup) {c : Client} (hc : c ∈ cs) (g : Nat → Nat) (m k : Nat) :
    cnt cs (fun x => if c.key = x then m else g x) k + (if g c.key = k then 1 else 0) = cnt cs g k + (if m = k then 1 else 0) := by
  induction cs with
  | nil => cases hc
  | cons d cs ih =>
    rw [List.map_cons, List.nodup_cons] at nd
    unfold cnt
    rw [List.countP_cons, List.countP_cons]
    rcases List.mem_cons.mp hc with h | h
    · subst h
      have e : cs.countP (fun d => (if c.key = d.key then m else g d.key) == k) = cs.countP (fun d => g d.key == k) := List.countP_congr fun d hd => by
        rw [if_neg fun z => nd.1 (List.mem_map.mpr ⟨d, hd, z.symm⟩)]
      show cs.countP (fun d => (if c.key = d.key then m else g d.key) == k) + (if ((if c.key = c.key then m else g c.key) == k) = true then 1 else 0) + _ = _
      rw [e, if_pos (rfl : c.key = c.key)]
      simp only [beq_iff_eq]
      omega
    · have ih := ih nd.2 h
      have ne : ¬ c.key = d.key := fun z => nd.1 (List.mem_map.mpr ⟨c, h, z⟩)
      unfold cnt at ih
      show _ + (if ((if c.key = d.key then m else g d.key) == k) = true then 1 else 0) + _ = _
      rw [if_neg ne]
      omega

theorem reached_iff {r : Reach} {m : Nat} : reached r m = true ↔ m ∈ r.map fun x => x.1 := by
  unfold reached
  rw [List.any_eq_true]
  constructor
  · rintro ⟨x, hx, e⟩
    exact List.mem_map.mpr ⟨x, hx, by simpa using e⟩
  · intro h
    obtain ⟨x, hx, e⟩ := List.mem_map.mp h
    exact ⟨x, hx, by simpa using e⟩

structure WayOk (cs : List Client) (f : Nat → Nat) (src : List Client) (r : Reach) (m : Nat) (way : Places) : Prop where
  nd : (way.map fun y => y.1).Nodup
  mem : ∀ y ∈ way, ∃ d ∈ cs, d.key = y.1 ∧ y.2 ∈ d.takers
  cn : ∀ k, k ≠ 0 → cnt cs (over f way) k = cnt cs f k + (if m = k then 1 else 0)
  fr : ∀ y ∈ way, (f y.1 = 0 ∧ ∃ d ∈ src, d.key = y.1) ∨ (f y.1 ≠ 0 ∧ f y.1 ∈ r.map fun x => x.1)
  ne : ∀ y ∈ way, f y.1 ≠ m
  base : ∃ d ∈ src, d.key ∈ way.map fun y => y.1
structure RI (ms : List Member) (cs : List Client) (f : Nat → Nat) (src : List Client) (r : Reach) : Prop where
  nd : (r.map fun x => x.1).Nodup
  key : ∀ x ∈ r, x.1 ∈ ms.map fun m => m.key
  way : ∀ x ∈ r, WayOk cs f src r x.1 x.2
theorem WayOk.more {cs f src r m way} (h : WayOk cs f src r m way) (e : Reach) : WayOk cs f src (r ++ e) m way :=
  ⟨h.nd, h.mem, h.cn, fun y hy => (h.fr y hy).imp id fun ⟨z1, z2⟩ => ⟨z1, by rw [List.map_append]; exact List.mem_append_left _ z2⟩, h.ne, h.base⟩

section
variable {ms : List Member} {cs : List Client} {f : Nat → Nat} {src : List Client} {r : Reach}
/-- from where a client may be offered -/
def From (cs : List Client) (f : Nat → Nat) (src : List Client) (r : Reach) (c : Client) (way : Places) : Prop :=
  c ∈ cs ∧ ((c ∈ src ∧ way = [] ∧ f c.key = 0) ∨ ∃ x, (x, way) ∈ r ∧ f c.key = x)
theorem From.more {c : Client} {way : Places} (h : From cs f src r c way) (e : Reach) : From cs f src (r ++ e) c way :=
  ⟨h.1, h.2.imp id fun ⟨x, h1, h2⟩ => ⟨x, List.mem_append_left _ h1, h2⟩⟩
theorem RI.step (w : Wf ms cs) (I : RI ms cs f src r) {c : Client} {way : Places} (h : From cs f src r c way) {m : Nat} (hm : m ∈ c.takers) (hr : m ∉ r.map fun x => x.1) :
    RI ms cs f src (r ++ [(m, (c.key, m) :: way)]) := by
  have hmem : m ∈ ms.map fun m => m.key := w.tk c h.1 m hm
  have hm0 : m ≠ 0 := w.tpos h.1 hm
  have new : WayOk cs f src r m ((c.key, m) :: way) := by
    rcases h.2 with ⟨hs, rfl, h0⟩ | ⟨x, hx, h0⟩
    · refine ⟨by simp, ?_, ?_, ?_, ?_, ⟨c, hs, by simp⟩⟩
      · intro y hy
        obtain rfl := List.mem_singleton.mp hy
        exact ⟨c, h.1, rfl, hm⟩
      · intro k hk
        have q := cnt_put w.ck h.1 f m k
        rw [h0, if_neg (fun z => hk z.symm)] at q
        have e : cnt cs (over f [(c.key, m)]) k = cnt cs (fun x => if c.key = x then m else f x) k := cnt_congr fun d _ => by rw [over_cons]; rfl
        rw [e]; exact q
      · intro y hy
        obtain rfl := List.mem_singleton.mp hy
        exact .inl ⟨h0, c, hs, rfl⟩
      · intro y hy
        obtain rfl := List.mem_singleton.mp hy
        show f c.key ≠ m
        rw [h0]; exact fun z => hm0 z.symm
    · have W := I.way _ hx
      have hx0 : x ≠ 0 := by
        obtain ⟨mm, a, b⟩ := List.mem_map.mp (I.key _ hx)
        have := w.pos mm a
        intro z; apply this; rw [b]; exact z
      have hn : c.key ∉ way.map fun y => y.1 := fun z => by
        obtain ⟨y, hy, e⟩ := List.mem_map.mp z
        exact W.ne y hy (by rw [e]; exact h0)
      have hxr : x ∈ r.map fun x => x.1 := List.mem_map.mpr ⟨_, hx, rfl⟩
      refine ⟨?_, ?_, ?_, ?_, ?_, ?_⟩
      · rw [List.map_cons, List.nodup_cons]; exact ⟨hn, W.nd⟩
      · intro y hy
        rcases List.mem_cons.mp hy with rfl | hy
        · exact ⟨c, h.1, rfl, hm⟩
        · exact W.mem y hy
      · intro k hk
        have q := cnt_put w.ck h.1 (over f way) m k
        rw [over_not hn, h0, W.cn k hk] at q
        have e : cnt cs (over f ((c.key, m) :: way)) k = cnt cs (fun x => if c.key = x then m else over f way x) k := cnt_congr fun d _ => by rw [over_cons]
        rw [e]
        show _ = _
        have q : cnt cs (fun x => if c.key = x then m else over f way x) k + (if x = k then 1 else 0) = cnt cs f k + (if x = k then 1 else 0) + (if m = k then 1 else 0) := q
        omega
      · intro y hy
        rcases List.mem_cons.mp hy with rfl | hy
        · exact .inr ⟨by show f c.key ≠ 0; rw [h0]; exact hx0, by show f c.key ∈ _; rw [h0]; exact hxr⟩
        · exact W.fr y hy
      · intro y hy
        rcases List.mem_cons.mp hy with rfl | hy
        · show f c.key ≠ m
          rw [h0]; rintro rfl; exact hr hxr
        · rcases W.fr y hy with ⟨z, _⟩ | ⟨_, z⟩
          · rw [z]; exact fun q => hm0 q.symm
          · intro q; rw [q] at z; exact hr z
      · obtain ⟨d, a, b⟩ := W.base
        exact ⟨d, a, by rw [List.map_cons]; exact List.mem_cons_of_mem _ b⟩
  refine ⟨?_, ?_, ?_⟩
  · rw [List.map_append, List.nodup_append]
    refine ⟨I.nd, by simp, ?_⟩
    intro a ha b hb
    obtain rfl : b = m := by simpa using hb
    rintro rfl; exact hr ha
  · intro x hx
    rcases List.mem_append.mp hx with hx | hx
    · exact I.key x hx
    · obtain rfl := List.mem_singleton.mp hx; exact hmem
  · intro x hx
    rcases List.mem_append.mp hx with hx | hx
    · exact (I.way x hx).more _
    · obtain rfl := List.mem_singleton.mp hx; exact new.more _

/-- r grew to r', and what holds -/
structure Grown (ms : List Member) (cs : List Client) (f : Nat → Nat) (src : List Client) (r r' : Reach) : Prop where
  ri : RI ms cs f src r'
  ext : ∃ e, r' = r ++ e
theorem Grown.refl (I : RI ms cs f src r) : Grown ms cs f src r r := ⟨I, [], by simp⟩
theorem Grown.trans {r1 r2 : Reach} (a : Grown ms cs f src r r1) (b : Grown ms cs f src r1 r2) : Grown ms cs f src r r2 := by
  obtain ⟨_, e1, rfl⟩ := a
  obtain ⟨I, e2, rfl⟩ := b
  exact ⟨I, e1 ++ e2, by simp⟩
theorem Grown.mem {r' : Reach} (a : Grown ms cs f src r r') {m : Nat} (h : m ∈ r.map fun x => x.1) : m ∈ r'.map fun x => x.1 := by
  obtain ⟨_, e, rfl⟩ := a
  rw [List.map_append]; exact List.mem_append_left _ h
theorem offer_grown (w : Wf ms cs) {c : Client} {way : Places} : ∀ (ts : List Nat) (r : Reach), RI ms cs f src r → From cs f src r c way → (∀ t ∈ ts, t ∈ c.takers) →
    Grown ms cs f src r (ts.foldl (fun l m => if reached l m = true then l else l ++ [(m, (c.key, m) :: way)]) r) ∧
    ∀ t ∈ ts, t ∈ (ts.foldl (fun l m => if reached l m = true then l else l ++ [(m, (c.key, m) :: way)]) r).map fun x => x.1
  | [], r, I, _, _ => ⟨Grown.refl I, fun t h => nomatch h⟩
  | t :: ts, r, I, h, ht => by
    rw [List.foldl_cons]
    by_cases hr : reached r t = true
    · rw [if_pos hr]
      obtain ⟨g, q⟩ := offer_grown w ts r I h fun t' ht' => ht t' (List.mem_cons_of_mem _ ht')
      refine ⟨g, fun t' ht' => ?_⟩
      rcases List.mem_cons.mp ht' with rfl | ht'
      · exact g.mem (reached_iff.mp hr)
      · exact q t' ht'
    · rw [if_neg hr]
      have I' := I.step w h (ht t List.mem_cons_self) (fun z => hr (reached_iff.mpr z))
      have g0 : Grown ms cs f src r (r ++ [(t, (c.key, t) :: way)]) := ⟨I', _, rfl⟩
      obtain ⟨g, q⟩ := offer_grown w ts _ I' (h.more _) fun t' ht' => ht t' (List.mem_cons_of_mem _ ht')
      refine ⟨g0.trans g, fun t' ht' => ?_⟩
      rcases List.mem_cons.mp ht' with rfl | ht'
      · exact g.mem (by simp)
      · exact q t' ht'
theorem offer_ok (w : Wf ms cs) {c : Client} {way : Places} (I : RI ms cs f src r) (h : From cs f src r c way) :
    Grown ms cs f src r (offer c way r) ∧ ∀ t ∈ c.takers, t ∈ (offer c way r).map fun x => x.1 := offer_grown w c.takers r I h fun _ z => z
/-- a walk of offers -/
theorem offers_ok (w : Wf ms cs) {way : Places} : ∀ (l : List Client) (r : Reach), RI ms cs f src r → (∀ c ∈ l, From cs f src r c way) →
    Grown ms cs f src r (l.foldl (fun l c => offer c way l) r) ∧ ∀ c ∈ l, ∀ t ∈ c.takers, t ∈ (l.foldl (fun l c => offer c way l) r).map fun x => x.1
  | [], r, I, _ => ⟨Grown.refl I, fun t h => nomatch h⟩
  | c :: l, r, I, h => by
    rw [List.foldl_cons]
    obtain ⟨g1, q1⟩ := offer_ok w I (h c List.mem_cons_self)
    obtain ⟨e, he⟩ := g1.ext
    obtain ⟨g2, q2⟩ := offers_ok w l (offer c way r) g1.ri fun d hd => by rw [he]; exact (h d (List.mem_cons_of_mem _ hd)).more e
    refine ⟨g1.trans g2, fun d hd t ht => ?_⟩
    rcases List.mem_cons.mp hd with rfl | hd
    · exact g2.mem (q1 t ht)
    · exact q2 d hd t ht
theorem wider_go (w : Wf ms cs) {ws : List Client} (hws : ∀ c ∈ ws, c ∈ cs) {p : Places} (hf : f = placeOf p) : ∀ (xs : Reach) (r : Reach), RI ms cs f src r → (∀ x ∈ xs, x ∈ r) →
    Grown ms cs f src r (xs.foldl (fun l x => (ws.filter fun c => placeOf p c.key == x.1).foldl (fun l c => offer c x.2 l) l) r) ∧
    ∀ x ∈ xs, ∀ c ∈ ws, f c.key = x.1 → ∀ t ∈ c.takers, t ∈ (xs.foldl (fun l x => (ws.filter fun c => placeOf p c.key == x.1).foldl (fun l c => offer c x.2 l) l) r).map fun x => x.1
  | [], r, I, _ => ⟨Grown.refl I, fun t h => nomatch h⟩
  | x :: xs, r, I, h => by
    rw [List.foldl_cons]
    have hF : ∀ c ∈ ws.filter (fun c => placeOf p c.key == x.1), From cs f src r c x.2 := fun c hc => by
      obtain ⟨h1, h2⟩ := List.mem_filter.mp hc
      exact ⟨hws c h1, .inr ⟨x.1, h x List.mem_cons_self, by rw [hf]; simpa using h2⟩⟩
    obtain ⟨g1, q1⟩ := offers_ok w (ws.filter fun c => placeOf p c.key == x.1) r I hF
    obtain ⟨e, he⟩ := g1.ext
    obtain ⟨g2, q2⟩ := wider_go w hws hf xs _ g1.ri fun y hy => by rw [he]; exact List.mem_append_left _ (h y (List.mem_cons_of_mem _ hy))
    refine ⟨g1.trans g2, fun y hy c hc e t ht => ?_⟩
    rcases List.mem_cons.mp hy with rfl | hy
    · exact g2.mem (q1 c (List.mem_filter.mpr ⟨hc, by rw [← hf]; simpa using e⟩) t ht)
    · exact q2 y hy c hc e t ht
theorem wider_ok (w : Wf ms cs) {ws : List Client} (hws : ∀ c ∈ ws, c ∈ cs) {p : Places} (hf : f = placeOf p) (I : RI ms cs f src r) :
    Grown ms cs f src r (wider ws p r) ∧ ∀ x ∈ r, ∀ c ∈ ws, f c.key = x.1 → ∀ t ∈ c.takers, t ∈ (wider ws p r).map fun x => x.1 := wider_go w hws hf r r I fun _ h => h
theorem RI.len (I : RI ms cs f src r) : r.length ≤ ms.length := by
  have := I.nd.length_le_of_subset (l₂ := ms.map fun m => m.key) fun a ha => by
    obtain ⟨x, hx, rfl⟩ := List.mem_map.mp ha
    exact I.key x hx
  rwa [List.length_map, List.length_map] at this
theorem reach_go (w : Wf ms cs) {ws : List Client} (hws : ∀ c ∈ ws, c ∈ cs) {p : Places} (hf : f = placeOf p) : ∀ (k : Nat) (r : Reach), RI ms cs f src r → ms.length ≤ r.length + k →
    Grown ms cs f src r (reachFrom ws p k r) ∧ wider ws p (reachFrom ws p k r) = reachFrom ws p k r
  | 0, r, I, h => by
    refine ⟨Grown.refl I, ?_⟩
    obtain ⟨g, _⟩ := wider_ok w hws hf I
    obtain ⟨e, he⟩ := g.ext
    have := g.ri.len
    show wider ws p r = r
    rw [he] at this ⊢
    rw [List.length_append] at this
    have : e = [] := List.eq_nil_of_length_eq_zero (by omega)
    rw [this, List.append_nil]
  | k + 1, r, I, h => by
    obtain ⟨g, _⟩ := wider_ok w hws hf I
    obtain ⟨e, he⟩ := g.ext
    unfold reachFrom
    by_cases hl : (wider ws p r).length = r.length
    · rw [if_pos hl]
      refine ⟨Grown.refl I, ?_⟩
      rw [he, List.length_append] at hl
      have : e = [] := List.eq_nil_of_length_eq_zero (by omega)
      rw [he, this, List.append_nil]
    · rw [if_neg hl]
      have h2 : ms.length ≤ (wider ws p r).length + k := by
        rw [he, List.length_append] at hl ⊢
        omega
      obtain ⟨g2, q⟩ := reach_go w hws hf k _ g.ri h2
      exact ⟨g.trans g2, q⟩
theorem RI.nil : RI ms cs f src [] := ⟨List.nodup_nil, fun x h => (nomatch h), fun x h => (nomatch h)⟩

/-- what the reach is: its ways are right; it's closed; it's the least such -/
theorem reachOf_ok (w : Wf ms cs) {ws : List Client} (hws : ∀ c ∈ ws, c ∈ cs) {p : Places} (hsrc : ∀ c ∈ src, c ∈ cs ∧ placeOf p c.key = 0) : RI ms cs (placeOf p) src (reachOf ms ws p src) ∧
    (∀ c ∈ src, ∀ t ∈ c.takers, t ∈ (reachOf ms ws p src).map fun x => x.1) ∧
    (∀ c ∈ ws, placeOf p c.key ∈ (reachOf ms ws p src).map (fun x => x.1) → ∀ t ∈ c.takers, t ∈ (reachOf ms ws p src).map fun x => x.1) := by
  unfold reachOf
  obtain ⟨g1, q1⟩ := offers_ok (ms := ms) (f := placeOf p) (src := src) w (way := []) src [] RI.nil fun c hc => ⟨(hsrc c hc).1, .inl ⟨hc, rfl, (hsrc c hc).2⟩⟩
  obtain ⟨g2, q2⟩ := reach_go w hws rfl ms.length _ g1.ri (Nat.le_add_left _ _)
  refine ⟨g2.ri, fun c hc t ht => g2.mem (q1 c hc t ht), fun c hc h t ht => ?_⟩
  obtain ⟨x, hx, e⟩ := List.mem_map.mp h
  obtain ⟨_, q3⟩ := wider_ok w hws rfl g2.ri
  have := q3 x hx c hc e.symm t ht
  rwa [q2] at this

/-! least -/
def Within (r : Reach) (T : Nat → Bool) : Prop := ∀ x ∈ r, T x.1 = true
theorem offer_in {T : Nat → Bool} {c : Client} {way : Places} : ∀ (ts : List Nat) (r : Reach), Within r T → (∀ t ∈ ts, T t = true) → Within (ts.foldl (fun l m => if reached l m = true then l else l ++ [(m, (c.key, m) :: way)]) r) T
  | [], _, h, _ => h
  | t :: ts, r, h, ht => by
    rw [List.foldl_cons]
    refine offer_in ts _ ?_ fun t' ht' => ht t' (List.mem_cons_of_mem _ ht')
    split
    · exact h
    · intro x hx
      rcases List.mem_append.mp hx with hx | hx
      · exact h x hx
      · obtain rfl := List.mem_singleton.mp hx; exact ht t List.mem_cons_self
theorem offers_in {T : Nat → Bool} {way : Places} : ∀ (l : List Client) (r : Reach), Within r T → (∀ c ∈ l, c.takers.all T = true) → Within (l.foldl (fun l c => offer c way l) r) T
  | [], _, h, _ => h
  | c :: l, r, h, hl => by
    rw [List.foldl_cons]
    exact offers_in l _ (offer_in c.takers r h fun t ht => List.all_eq_true.mp (hl c List.mem_cons_self) t ht) fun d hd => hl d (List.mem_cons_of_mem _ hd)
theorem wider_in {T : Nat → Bool} {p : Places} (hc : ∀ c ∈ cs, T (placeOf p c.key) = true → c.takers.all T = true) : ∀ (xs r : Reach), Within xs T → Within r T →
    Within (xs.foldl (fun l x => (cs.filter fun c => placeOf p c.key == x.1).foldl (fun l c => offer c x.2 l) l) r) T
  | [], _, _, h => h
  | x :: xs, r, hx, h => by
    rw [List.foldl_cons]
    refine wider_in hc xs _ (fun y hy => hx y (List.mem_cons_of_mem _ hy)) (offers_in _ r h fun c hcc => ?_)
    obtain ⟨h1, h2⟩ := List.mem_filter.mp hcc
    have e : placeOf p c.key = x.1 := by simpa using h2
    exact hc c h1 (by rw [e]; exact hx x List.mem_cons_self)
theorem reachFrom_in {T : Nat → Bool} {p : Places} (hc : ∀ c ∈ cs, T (placeOf p c.key) = true → c.takers.all T = true) : ∀ (k : Nat) (r : Reach), Within r T → Within (reachFrom cs p k r) T
  | 0, _, h => h
  | k + 1, r, h => by
    unfold reachFrom
    split
    · exact h
    · exact reachFrom_in hc k _ (wider_in hc r r h h)
theorem reachOf_in {T : Nat → Bool} {p : Places} (hc : ∀ c ∈ cs, T (placeOf p c.key) = true → c.takers.all T = true) (hs : ∀ c ∈ src, c.takers.all T = true) : Within (reachOf ms cs p src) T := by
  unfold reachOf
  exact reachFrom_in hc _ _ (offers_in src [] (fun x h => nomatch h) hs)
end

/-! ### one client more -/
section
variable {ms : List Member} {cs : List Client} {p q : Places} {c : Client}
theorem placeOf_changed {way : Places} (k : Nat) : placeOf (changedPlaces p way) k = over (placeOf p) way k := by
  unfold changedPlaces over
  unfold placeOf
  rw [List.find?_append]
  cases e : way.find? fun y => y.1 == k with
  | some y =>
    have h1 : (p.filter fun x => !way.any fun y => y.1 == x.1).find? (fun x => x.1 == k) = none := List.find?_eq_none.mpr fun x hx z => by
      obtain ⟨_, h2⟩ := List.mem_filter.mp hx
      have a := List.mem_of_find?_eq_some e
      have b := List.find?_some e
      simp only [beq_iff_eq] at z b
      have : way.any (fun y => y.1 == x.1) = true := List.any_eq_true.mpr ⟨y, a, by simp [b, z]⟩
      rw [this] at h2; cases h2
    rw [h1]; rfl
  | none =>
    have h1 : (p.filter fun x => !way.any fun y => y.1 == x.1).find? (fun x => x.1 == k) = p.find? (fun x => x.1 == k) := by
      rw [List.find?_filter]
      congr 1
      funext x
      by_cases hk : x.1 = k
      · have : way.any (fun y => y.1 == x.1) = false := by
          rw [List.any_eq_false]
          intro y hy z
          exact absurd (by simpa using z : y.1 = x.1) fun z => List.find?_eq_none.mp e y hy (by simp [z, hk])
        simp [hk, this]
        rw [← hk]; simpa using this
      · simp [hk]
    rw [h1]
    cases p.find? (fun x => x.1 == k) <;> rfl
theorem placed_some (w : Wf ms cs) (g : GoodP ms cs p) (hc : c ∈ cs) (h0 : placeOf p c.key = 0) (h : placed ms cs p c = some q) :
    GoodP ms cs q ∧ ∀ k, placeOf q k ≠ 0 ↔ placeOf p k ≠ 0 ∨ k = c.key := by
  unfold placed at h
  obtain ⟨I, _, _⟩ := reachOf_ok (ms := ms) (p := p) (src := [c]) w (fun _ h => h) fun d hd => by
    obtain rfl := List.mem_singleton.mp hd; exact ⟨hc, h0⟩
  cases e : (reachOf ms cs p [c]).find? fun x => isFree ms p x.1 with
  | none => rw [e] at h; cases h
  | some x =>
    rw [e] at h
    have hx := List.mem_of_find?_eq_some e
    have hfree := List.find?_some e
    have W := I.way x hx
    obtain ⟨m, hm, hmk⟩ := List.mem_map.mp (I.key x hx)
    obtain rfl : changedPlaces p x.2 = q := Option.some.inj h
    have hpos : ∀ y ∈ x.2, y.2 ≠ 0 := fun y hy => by
      obtain ⟨d, hd, _, ht⟩ := W.mem y hy
      exact w.tpos hd ht
    have nd : ((changedPlaces p x.2).map fun x => x.1).Nodup := by
      unfold changedPlaces
      rw [List.map_append, List.nodup_append]
      refine ⟨nodup_filter_map _ _ g.nd, W.nd, ?_⟩
      intro a ha b hb
      obtain ⟨y, hy, rfl⟩ := List.mem_map.mp ha
      obtain ⟨z, hz, rfl⟩ := List.mem_map.mp hb
      obtain ⟨_, h2⟩ := List.mem_filter.mp hy
      intro e
      have : x.2.any (fun z => z.1 == y.1) = true := List.any_eq_true.mpr ⟨z, hz, by simp [e]⟩
      rw [this] at h2; cases h2
    have mem : ∀ y ∈ changedPlaces p x.2, ∃ c ∈ cs, c.key = y.1 ∧ y.2 ∈ c.takers := fun y hy => by
      unfold changedPlaces at hy
      rcases List.mem_append.mp hy with hy | hy
      · exact g.mem y (List.mem_filter.mp hy).1
      · exact W.mem y hy
    refine ⟨⟨nd, mem, fun m' hm' => ?_⟩, fun k => ?_⟩
    · have e1 : cnt cs (placeOf (changedPlaces p x.2)) m'.key = cnt cs (over (placeOf p) x.2) m'.key := cnt_congr fun d _ => placeOf_changed d.key
      rw [e1, W.cn _ (w.pos m' hm')]
      by_cases hk : x.1 = m'.key
      · rw [if_pos hk]
        have z : takenAt p x.1 < roomOf ms x.1 := of_decide_eq_true hfree
        rw [hk, roomOf_mem w.nk hm', taken_cnt w g.nd g.mem (w.pos m' hm')] at z
        exact z
      · rw [if_neg hk]; exact g.cap m' hm'
    · rw [placeOf_changed]
      by_cases hk : k ∈ x.2.map fun y => y.1
      · obtain ⟨y, hy, rfl⟩ := List.mem_map.mp hk
        have z : over (placeOf p) x.2 y.1 ≠ 0 := by
          unfold over
          cases e2 : x.2.find? fun z => z.1 == y.1 with
          | none => exact absurd (List.find?_eq_none.mp e2 y hy) (by simp)
          | some v => exact hpos v (List.mem_of_find?_eq_some e2)
        refine ⟨fun _ => ?_, fun _ => z⟩
        rcases W.fr y hy with ⟨_, d, hd, e3⟩ | ⟨h, _⟩
        · obtain rfl := List.mem_singleton.mp hd
          exact .inr e3.symm
        · exact .inl h
      · rw [over_not hk]
        refine ⟨fun h => .inl h, fun h => h.resolve_right ?_⟩
        rintro rfl
        obtain ⟨d, hd, e3⟩ := W.base
        obtain rfl := List.mem_singleton.mp hd
        exact hk e3
theorem placed_none (w : Wf ms cs) (g : GoodP ms cs p) (hc : c ∈ cs) (h0 : placeOf p c.key = 0) (h : placed ms cs p c = none) :
    ∃ T : Nat → Bool, c.takers.all T = true ∧ Closed cs (placeOf p) T ∧ Full ms cs (placeOf p) T := by
  unfold placed at h
  obtain ⟨I, q1, q2⟩ := reachOf_ok (ms := ms) (p := p) (src := [c]) w (fun _ h => h) fun d hd => by
    obtain rfl := List.mem_singleton.mp hd; exact ⟨hc, h0⟩
  have hn : (reachOf ms cs p [c]).find? (fun x => isFree ms p x.1) = none := by
    cases e : (reachOf ms cs p [c]).find? fun x => isFree ms p x.1 with
    | none => rfl
    | some x => rw [e] at h; cases h
  refine ⟨fun k => decide (k ∈ (reachOf ms cs p [c]).map fun x => x.1), ?_, ?_, ?_⟩
  · exact List.all_eq_true.mpr fun t ht => decide_eq_true (q1 c (List.mem_singleton.mpr rfl) t ht)
  · intro d hd _ hT
    exact List.all_eq_true.mpr fun t ht => decide_eq_true (q2 d hd (of_decide_eq_true hT) t ht)
  · intro m hm hT
    obtain ⟨x, hx, e⟩ := List.mem_map.mp (of_decide_eq_true hT)
    have z := List.find?_eq_none.mp hn x hx
    have z2 : ¬ takenAt p x.1 < roomOf ms x.1 := fun q => z (decide_eq_true q)
    rw [e, roomOf_mem w.nk hm, taken_cnt w g.nd g.mem (w.pos m hm)] at z2
    omega
end
end Cm
namespace Cm
open Vbchaj

/-! ### who is moved -/
def Fits (ms : List Member) (L : List Client) (c : Client) : Prop := ∀ T : Nat → Bool, c.takers.all T = true → keptT L T < roomT ms T
def greedyB (go : List Client → Client → Bool) : List Client → List Client → List Client
  | found, [] => found
  | found, c :: l => if go found c = true then greedyB go (found ++ [c]) l else greedyB go found l
/-- go decides whether a client can be placed too -/
def Goes (ms : List Member) (cs : List Client) (go : List Client → Client → Bool) : Prop := ∀ (L : List Client) (c : Client), (∀ d ∈ L, d ∈ cs) → c ∈ cs → (go L c = true ↔ Fits ms L c)
theorem keptT_append (L M : List Client) (T : Nat → Bool) : keptT (L ++ M) T = keptT L T + keptT M T := List.countP_append ..
theorem keptT_cons (c : Client) (L : List Client) (T : Nat → Bool) : keptT (c :: L) T = keptT L T + (if c.takers.all T = true then 1 else 0) := by
  unfold keptT
  rw [List.countP_cons]
theorem keptT_one (c : Client) (T : Nat → Bool) : keptT [c] T = if c.takers.all T = true then 1 else 0 := by rw [keptT_cons]; show 0 + _ = _; omega
theorem placedL_congr {l : List Client} {f g : Nat → Nat} (h : ∀ c ∈ l, f c.key ≠ 0 ↔ g c.key ≠ 0) : placedL l f = placedL l g := by
  unfold placedL
  refine List.filter_congr fun c hc => ?_
  have := h c hc
  by_cases e : f c.key = 0
  · have e2 : g c.key = 0 := Classical.byContradiction fun z => this.mpr z e
    rw [e, e2]
  · have e2 := this.mp e
    rw [bne_iff_ne.mpr e, bne_iff_ne.mpr e2]
theorem placedL_nil {l : List Client} {f : Nat → Nat} (h : ∀ c ∈ l, f c.key = 0) : placedL l f = [] := by
  unfold placedL
  rw [List.filter_eq_nil_iff]
  intro c hc
  simp [h c hc]
theorem placedL_append (l m : List Client) (f : Nat → Nat) : placedL (l ++ m) f = placedL l f ++ placedL m f := List.filter_append ..
theorem placing_ok {ms : List Member} {cs : List Client} {go : List Client → Client → Bool} (w : Wf ms cs) (hgo : Goes ms cs go) : ∀ (l pre : List Client) (p : Places), cs = pre ++ l → GoodP ms cs p → (∀ c ∈ l, placeOf p c.key = 0) →
    GoodP ms cs (placing ms cs l p) ∧ placedL cs (placeOf (placing ms cs l p)) = greedyB go (placedL pre (placeOf p)) l
  | [], pre, p, e, g, _ => by
    rw [List.append_nil] at e
    subst e
    exact ⟨g, rfl⟩
  | c :: l, pre, p, e, g, h0 => by
    have hc : c ∈ cs := by rw [e]; simp
    have hc0 := h0 c List.mem_cons_self
    have hnd : (pre.map fun c => c.key).Nodup ∧ c.key ∉ (pre.map fun c => c.key) ∧ c.key ∉ (l.map fun c => c.key) := by
      have := w.ck
      rw [e, List.map_append, List.map_cons, List.nodup_append, List.nodup_cons] at this
      exact ⟨this.1, fun z => this.2.2 _ z _ List.mem_cons_self rfl, this.2.1.1⟩
    have e2 : cs = (pre ++ [c]) ++ l := by rw [e]; simp
    have hL : placedL cs (placeOf p) = placedL pre (placeOf p) := by
      rw [e, placedL_append, placedL_nil h0, List.append_nil]
    have hsub : ∀ d ∈ placedL pre (placeOf p), d ∈ cs := fun d hd => by rw [e]; exact List.mem_append_left _ (List.mem_filter.mp hd).1
    show GoodP ms cs (match placed ms cs p c with | some q => placing ms cs l q | none => placing ms cs l p) ∧ placedL cs (placeOf (match placed ms cs p c with | some q => placing ms cs l q | none => placing ms cs l p)) = if go (placedL pre (placeOf p)) c = true then greedyB go (placedL pre (placeOf p) ++ [c]) l else greedyB go (placedL pre (placeOf p)) l
    cases hp : placed ms cs p c with
    | some q =>
      obtain ⟨gq, hq⟩ := placed_some w g hc hc0 hp
      have hq0 : ∀ d ∈ l, placeOf q d.key = 0 := fun d hd => by
        refine Classical.byContradiction fun z => ?_
        rcases (hq d.key).mp z with z | z
        · exact z (h0 d (List.mem_cons_of_mem _ hd))
        · exact hnd.2.2 (List.mem_map.mpr ⟨d, hd, z⟩)
      have e3 : placedL (pre ++ [c]) (placeOf q) = placedL pre (placeOf p) ++ [c] := by
        rw [placedL_append]
        congr 1
        · refine placedL_congr fun d hd => ?_
          rw [hq d.key]
          refine ⟨fun z => z.resolve_right fun z => hnd.2.1 (List.mem_map.mpr ⟨d, hd, z⟩), .inl⟩
        · unfold placedL
          have : placeOf q c.key ≠ 0 := (hq c.key).mpr (.inr rfl)
          simp [this]
      have hcs : placedL cs (placeOf q) = placedL pre (placeOf p) ++ [c] := by rw [e2, placedL_append, placedL_nil hq0, List.append_nil, e3]
      have hfit : go (placedL pre (placeOf p)) c = true := (hgo _ c hsub hc).mpr fun T hT => by
        have := hall (T := T) w (gq.good w)
        rw [hcs, keptT_append, keptT_one, if_pos hT] at this
        omega
      rw [if_pos hfit]
      obtain ⟨r1, r2⟩ := placing_ok w hgo l (pre ++ [c]) q e2 gq hq0
      rw [e3] at r2
      exact ⟨r1, r2⟩
    | none =>
      obtain ⟨T, h1, h2, h3⟩ := placed_none w g hc hc0 hp
      have ht := tight_of w (g.good w) h2 h3
      rw [hL] at ht
      have hfit : ¬ go (placedL pre (placeOf p)) c = true := fun z => by
        have := (hgo _ c hsub hc).mp z T h1
        omega
      rw [if_neg hfit]
      have e3 : placedL (pre ++ [c]) (placeOf p) = placedL pre (placeOf p) := by
        rw [placedL_append, placedL_nil (l := [c]) (fun d hd => by obtain rfl := List.mem_singleton.mp hd; exact hc0), List.append_nil]
      obtain ⟨r1, r2⟩ := placing_ok w hgo l (pre ++ [c]) p e2 g fun d hd => h0 d (List.mem_cons_of_mem _ hd)
      rw [e3] at r2
      exact ⟨r1, r2⟩
section
variable {ms : List Member} {cs : List Client} {go : List Client → Client → Bool}
theorem GoodP.nil (w : Wf ms cs) : GoodP ms cs [] := ⟨List.nodup_nil, fun x h => (nomatch h), fun m hm => by
  refine Nat.le_trans (Nat.le_of_eq (?_ : _ = 0)) (Nat.zero_le _)
  unfold cnt
  rw [List.countP_eq_zero]
  intro c _ z
  have : (0 : Nat) = m.key := by simpa [placeOf] using z
  exact w.pos m hm this.symm⟩
theorem placing_nil (w : Wf ms cs) (hgo : Goes ms cs go) : GoodP ms cs (placing ms cs cs []) ∧ placedL cs (placeOf (placing ms cs cs [])) = greedyB go [] cs :=
  placing_ok w hgo cs [] [] rfl (GoodP.nil w) fun _ _ => rfl
/-- who is moved: one after another -/
theorem movedOf_eq (w : Wf ms cs) (hgo : Goes ms cs go) : movedOf ms cs = greedyB go [] cs := (placing_nil w hgo).2
theorem greedy_ext : ∀ (l L : List Client), ∃ e, greedyB go L l = L ++ e ∧ e.Sublist l
  | [], L => ⟨[], by simp [greedyB], .slnil⟩
  | c :: l, L => by
    unfold greedyB
    split
    · obtain ⟨e, h1, h2⟩ := greedy_ext l (L ++ [c])
      exact ⟨c :: e, by rw [h1]; simp, h2.cons_cons c⟩
    · obtain ⟨e, h1, h2⟩ := greedy_ext l L
      exact ⟨e, h1, h2.cons c⟩
theorem greedy_append : ∀ (l m L : List Client), greedyB go L (l ++ m) = greedyB go (greedyB go L l) m
  | [], _, _ => rfl
  | c :: l, m, L => by
    rw [List.cons_append]
    show (if go L c = true then greedyB go (L ++ [c]) (l ++ m) else greedyB go L (l ++ m)) = greedyB go (if go L c = true then greedyB go (L ++ [c]) l else greedyB go L l) m
    split
    · exact greedy_append l m _
    · exact greedy_append l m _
theorem keptT_le_append (L M : List Client) (T : Nat → Bool) : keptT L T ≤ keptT (L ++ M) T := by rw [keptT_append]; omega
theorem greedy_all (hgo : Goes ms cs go) : ∀ (l L : List Client), (∀ d ∈ L ++ l, d ∈ cs) → (∀ T, keptT (L ++ l) T ≤ roomT ms T) → greedyB go L l = L ++ l
  | [], L, _, _ => by simp [greedyB]
  | c :: l, L, hs, h => by
    unfold greedyB
    have hg : go L c = true := (hgo L c (fun d hd => hs d (List.mem_append_left _ hd)) (hs c (by simp))).mpr fun T hT => by
      have q := h T
      rw [keptT_append, keptT_cons, if_pos hT] at q
      omega
    rw [if_pos hg, greedy_all hgo l (L ++ [c]) (fun d hd => hs d (by simpa using hd)) (fun T => by rw [List.append_assoc]; exact h T), List.append_assoc]
    rfl
/-- whoever is left has a proof -/
theorem greedy_left (hgo : Goes ms cs go) : ∀ (l L : List Client), (∀ d ∈ L ++ l, d ∈ cs) → ∀ c ∈ l, c ∉ greedyB go L l → ∃ T : Nat → Bool, c.takers.all T = true ∧ roomT ms T ≤ keptT (greedyB go L l) T
  | [], _, _, c, hc, _ => nomatch hc
  | d :: l, L, hs, c, hc, hn => by
    unfold greedyB at hn ⊢
    by_cases hg : go L d = true
    · rw [if_pos hg] at hn ⊢
      refine greedy_left hgo l (L ++ [d]) (fun x hx => hs x (by simpa using hx)) c ((List.mem_cons.mp hc).resolve_left ?_) hn
      rintro rfl
      obtain ⟨e, he, _⟩ := greedy_ext (go := go) l (L ++ [c])
      exact hn (by rw [he]; simp)
    · rw [if_neg hg] at hn ⊢
      rcases List.mem_cons.mp hc with rfl | hc
      · have : ¬ Fits ms L c := fun z => hg ((hgo L c (fun x hx => hs x (List.mem_append_left _ hx)) (hs c (by simp))).mpr z)
        obtain ⟨T, hT⟩ := Classical.not_forall.mp this
        obtain ⟨h1, h2⟩ := Classical.not_imp.mp hT
        obtain ⟨e, he, _⟩ := greedy_ext (go := go) l L
        refine ⟨T, h1, ?_⟩
        rw [he]
        exact Nat.le_trans (Nat.le_of_not_lt h2) (keptT_le_append ..)
      · exact greedy_left hgo l L (fun x hx => hs x (by
          rcases List.mem_append.mp hx with z | z
          · exact List.mem_append_left _ z
          · exact List.mem_append_right _ (List.mem_cons_of_mem _ z))) c hc hn
/-- a decider, for the mathematics alone -/
noncomputable def goC (ms : List Member) (L : List Client) (c : Client) : Bool := @decide (Fits ms L c) (Classical.propDecidable _)
theorem goC_ok : Goes ms cs (goC ms) := fun L c _ _ => by
  unfold goC
  exact @decide_eq_true_iff _ (Classical.propDecidable _)
theorem moved_hall (w : Wf ms cs) (T : Nat → Bool) : keptT (movedOf ms cs) T ≤ roomT ms T := hall w ((placing_nil w goC_ok).1.good w)
theorem moved_sub : (movedOf ms cs).Sublist cs := List.filter_sublist
theorem moved_left (w : Wf ms cs) {c : Client} (hc : c ∈ cs) (hn : c ∉ movedOf ms cs) : ∃ T : Nat → Bool, c.takers.all T = true ∧ roomT ms T ≤ keptT (movedOf ms cs) T := by
  rw [movedOf_eq w goC_ok] at hn ⊢
  exact greedy_left goC_ok cs [] (fun d hd => hd) c hc hn
theorem moved_all (w : Wf ms cs) (h : ∀ T, keptT cs T ≤ roomT ms T) : movedOf ms cs = cs := by
  rw [movedOf_eq w goC_ok]
  exact greedy_all goC_ok cs [] (fun d hd => hd) h
theorem Wf.sub {l : List Client} (w : Wf ms cs) (h : l.Sublist cs) : Wf ms l := ⟨w.nk, w.ck.sublist (h.map _), w.pos, fun c hc => w.tk c (h.subset hc)⟩
theorem canAll_iff (w : Wf ms cs) : canAll ms cs = true ↔ ∀ T, keptT cs T ≤ roomT ms T := by
  have q := len_placed w (placing_nil w (goC_ok (ms := ms) (cs := cs))).1
  unfold canAll
  rw [beq_iff_eq, q]
  constructor
  · intro h T
    have e : placedL cs (placeOf (placing ms cs cs [])) = cs := (List.Sublist.length_eq (List.filter_sublist)).mp h
    have := hall (T := T) w ((placing_nil w goC_ok).1.good w)
    rwa [e] at this
  · intro h
    have e := moved_all w h
    show (movedOf ms cs).length = _
    rw [e]
/-! ### where they go -/
theorem keys_without (m : Nat) : ((without ms m).map fun m => m.key) = ms.map fun m => m.key := by
  unfold without
  rw [List.map_map]
  refine List.map_congr_left fun x _ => ?_
  show (if x.key = m then { x with room := x.room - 1 } else x : Member).key = x.key
  split <;> rfl
theorem Wf.without (w : Wf ms cs) (m : Nat) : Wf (Vbchaj.without ms m) cs where
  nk := by rw [keys_without]; exact w.nk
  ck := w.ck
  pos := fun x hx => by
    unfold Vbchaj.without at hx
    obtain ⟨y, hy, rfl⟩ := List.mem_map.mp hx
    have := w.pos y hy
    split <;> exact this
  tk := by rw [keys_without]; exact w.tk
theorem roomOf_pos_mem {m : Nat} (h : 0 < roomOf ms m) : m ∈ ms.map fun m => m.key := by
  unfold roomOf at h
  cases e : ms.find? fun x => x.key == m with
  | none => rw [e] at h; exact absurd h (by simp)
  | some x => exact List.mem_map.mpr ⟨x, List.mem_of_find?_eq_some e, by simpa using List.find?_some e⟩
theorem roomT_without {m : Nat} (hm : m ∈ ms.map fun m => m.key) (nk : (ms.map fun m => m.key).Nodup) (h : 0 < roomOf ms m) (T : Nat → Bool) : roomT (Vbchaj.without ms m) T + (if T m = true then 1 else 0) = roomT ms T := by
  unfold roomT Vbchaj.without
  rw [List.map_map]
  have e : (ms.map fun x => (if T x.key = true then x.room else 0)) = ms.map fun x => ((fun m => if T m.key = true then m.room else 0) ∘ fun x => if x.key = m then { x with room := x.room - 1 } else x) x + (if x.key = m then (if T m = true then 1 else 0) else 0) := by
    refine List.map_congr_left fun x hx => ?_
    show _ = (if T (if x.key = m then { x with room := x.room - 1 } else x : Member).key = true then (if x.key = m then { x with room := x.room - 1 } else x : Member).room else 0) + _
    by_cases hk : x.key = m
    · subst hk
      rw [roomOf_mem nk hx] at h
      rw [if_pos rfl, if_pos rfl]
      show _ = (if T x.key = true then x.room - 1 else 0) + _
      split <;> omega
    · rw [if_neg hk, if_neg hk]; omega
  rw [e, sum_map_add, sum_ind _ _ _ nk, if_pos hm]
/-- whether somebody can go to a member, all others placed too -/
def FreeT (ms : List Member) (L : List Client) (c : Client) (m : Nat) : Prop := ∀ T : Nat → Bool, T m = true → ¬ c.takers.all T = true → keptT L T < roomT ms T
theorem roomT_single {m : Nat} (nk : (ms.map fun m => m.key).Nodup) (hm : m ∈ ms.map fun m => m.key) : roomT ms (fun k => decide (k = m)) = roomOf ms m := by
  obtain ⟨x, hx, rfl⟩ := List.mem_map.mp hm
  rw [roomOf_mem nk hx]
  have := sum_ind ms x.key x.room nk
  rw [if_pos hm] at this
  rw [← this]
  unfold roomT
  refine sum_map_congr _ _ _ fun y hy => ?_
  by_cases e : y.key = x.key
  · have e2 : y.room = x.room := by rw [← roomOf_mem nk hy, ← roomOf_mem nk hx, e]
    rw [if_pos (decide_eq_true e), if_pos e, e2]
  · rw [if_neg (fun z => e (of_decide_eq_true z)), if_neg e]
theorem free_iff {L l : List Client} {c : Client} {m : Nat} (w : Wf ms (c :: l)) (hL : ∀ T, keptT L T = keptT (c :: l) T) (hH : ∀ T, keptT L T ≤ roomT ms T) (hm : m ∈ c.takers) :
    (decide (0 < roomOf ms m) && canAll (Vbchaj.without ms m) l) = true ↔ FreeT ms L c m := by
  have hmk : m ∈ ms.map fun m => m.key := w.tk c List.mem_cons_self m hm
  have wl : Wf ms l := w.sub (List.sublist_cons_self c l)
  rw [Bool.and_eq_true, decide_eq_true_iff, canAll_iff (wl.without m)]
  constructor
  · rintro ⟨h0, h⟩ T hT hn
    have q := h T
    have r := roomT_without hmk w.nk h0 T
    rw [if_pos hT] at r
    rw [hL, keptT_cons, if_neg hn]
    omega
  · intro h
    have h0 : 0 < roomOf ms m := by
      rw [← roomT_single w.nk hmk]
      by_cases ha : c.takers.all (fun k => decide (k = m)) = true
      · have q := hH (fun k => decide (k = m))
        rw [hL, keptT_cons, if_pos ha] at q
        omega
      · exact Nat.lt_of_le_of_lt (Nat.zero_le _) (h _ (decide_eq_true rfl) ha)
    refine ⟨h0, fun T => ?_⟩
    have r := roomT_without hmk w.nk h0 T
    have q := hH T
    rw [hL, keptT_cons] at q
    by_cases hT : T m = true
    · rw [if_pos hT] at r
      by_cases ha : c.takers.all T = true
      · rw [if_pos ha] at q; omega
      · have z := h T hT ha
        rw [hL, keptT_cons, if_neg ha] at z
        omega
    · rw [if_neg hT] at r
      omega
theorem free_some {l : List Client} {c : Client} (w : Wf ms (c :: l)) (hH : ∀ T, keptT (c :: l) T ≤ roomT ms T) : ∃ m ∈ c.takers, (decide (0 < roomOf ms m) && canAll (Vbchaj.without ms m) l) = true := by
  have G := (placing_nil w (goC_ok (ms := ms) (cs := c :: l))).1
  have e : placedL (c :: l) (placeOf (placing ms (c :: l) (c :: l) [])) = c :: l := moved_all w hH
  have hall' : ∀ d ∈ c :: l, placeOf (placing ms (c :: l) (c :: l) []) d.key ≠ 0 := fun d hd => by
    rw [← e] at hd
    simpa using (List.mem_filter.mp hd).2
  have g := G.good w
  generalize placeOf (placing ms (c :: l) (c :: l) []) = f at g hall'
  have hm := g.ok c List.mem_cons_self (hall' c List.mem_cons_self)
  have hmk : f c.key ∈ ms.map fun m => m.key := w.tk c List.mem_cons_self _ hm
  have wl : Wf ms l := w.sub (List.sublist_cons_self c l)
  have h0 : 0 < roomOf ms (f c.key) := by
    obtain ⟨x, hx, hk⟩ := List.mem_map.mp hmk
    have q := g.cap x hx
    rw [← hk, roomOf_mem w.nk hx]
    unfold cnt at q
    rw [List.countP_cons, if_pos (by simp [hk])] at q
    omega
  refine ⟨f c.key, hm, ?_⟩
  rw [Bool.and_eq_true, decide_eq_true_iff, canAll_iff (wl.without _)]
  refine ⟨h0, fun T => ?_⟩
  have g' : Good (Vbchaj.without ms (f c.key)) l f := ⟨fun d hd => g.ok d (List.mem_cons_of_mem _ hd), fun x hx => by
    unfold Vbchaj.without at hx
    obtain ⟨y, hy, rfl⟩ := List.mem_map.mp hx
    have q := g.cap y hy
    unfold cnt at q
    rw [List.countP_cons] at q
    by_cases hk : y.key = f c.key
    · rw [if_pos hk]
      rw [if_pos (by simp [hk])] at q
      show cnt l f y.key ≤ y.room - 1
      unfold cnt
      omega
    · rw [if_neg hk]
      unfold cnt
      omega⟩
  have q := hall (T := T) (wl.without _) g'
  have e2 : placedL l f = l := List.filter_eq_self.mpr fun d hd => by simpa using hall' d (List.mem_cons_of_mem _ hd)
  rwa [e2] at q
/-- where the first of some clients goes, and what is left for those behind -/
theorem first_eq {l : List Client} {c : Client} (w : Wf ms (c :: l)) (hH : ∀ T, keptT (c :: l) T ≤ roomT ms T) (free : Nat → Bool) (hf : ∀ m ∈ c.takers, free m = true ↔ FreeT ms (c :: l) c m) :
    ∃ m ∈ c.takers, c.takers.find? free = some m ∧ firstPlaces ms (c :: l) = (c.key, m) :: firstPlaces (Vbchaj.without ms m) l ∧ 0 < roomOf ms m ∧ (∀ T, keptT l T ≤ roomT (Vbchaj.without ms m) T) := by
  have e : c.takers.find? (fun m => decide (0 < roomOf ms m) && canAll (Vbchaj.without ms m) l) = c.takers.find? free := by
    have key : ∀ ts : List Nat, (∀ m ∈ ts, m ∈ c.takers) → ts.find? (fun m => decide (0 < roomOf ms m) && canAll (Vbchaj.without ms m) l) = ts.find? free := by
      intro ts
      induction ts with
      | nil => intro _; rfl
      | cons t ts ih =>
        intro ht
        have h1 : (decide (0 < roomOf ms t) && canAll (Vbchaj.without ms t) l) = free t := by
          have a := free_iff w (fun _ => rfl) hH (ht t List.mem_cons_self)
          have b := hf t (ht t List.mem_cons_self)
          rw [Bool.eq_iff_iff, a, b]
        rw [List.find?_cons, List.find?_cons, h1, ih fun m hm => ht m (List.mem_cons_of_mem _ hm)]
    exact key _ fun _ h => h
  obtain ⟨m0, hm0, hfree⟩ := free_some w hH
  cases h : c.takers.find? (fun m => decide (0 < roomOf ms m) && canAll (Vbchaj.without ms m) l) with
  | none => exact absurd hfree (List.find?_eq_none.mp h m0 hm0)
  | some m =>
    have h2 := List.find?_some h
    rw [Bool.and_eq_true, decide_eq_true_iff, canAll_iff ((w.sub (List.sublist_cons_self c l)).without m)] at h2
    refine ⟨m, List.mem_of_find?_eq_some h, e ▸ h, ?_, h2.1, h2.2⟩
    show (match c.takers.find? fun m => decide (0 < roomOf ms m) && canAll (Vbchaj.without ms m) l with | some m => (c.key, m) :: firstPlaces (Vbchaj.without ms m) l | none => firstPlaces ms l) = _
    rw [h]
/-! ### least sets -/
/-- what the specification reaches from some clients who are left: it's tight, and within each tight set -/
theorem reach_least (w : Wf ms cs) {ws src : List Client} {p : Places} (g : GoodP ms cs p) (e : placedL cs (placeOf p) = ws) (hs : ∀ c ∈ src, c ∈ cs ∧ placeOf p c.key = 0)
    (hl : ∀ c ∈ src, ∃ T : Nat → Bool, c.takers.all T = true ∧ roomT ms T ≤ keptT ws T) :
    ((reachOf ms ws p src).map fun x => x.1).Nodup ∧ (∀ x ∈ reachOf ms ws p src, x.1 ∈ ms.map fun m => m.key) ∧
    (∀ c ∈ src, c.takers.all (fun k => decide (k ∈ (reachOf ms ws p src).map fun x => x.1)) = true) ∧
    roomT ms (fun k => decide (k ∈ (reachOf ms ws p src).map fun x => x.1)) ≤ keptT ws (fun k => decide (k ∈ (reachOf ms ws p src).map fun x => x.1)) ∧
    ∀ T : Nat → Bool, (∀ c ∈ src, c.takers.all T = true) → roomT ms T ≤ keptT ws T → ∀ k ∈ (reachOf ms ws p src).map (fun x => x.1), T k = true := by
  have hws : ∀ c ∈ ws, c ∈ cs := fun c hc => by rw [← e] at hc; exact (List.mem_filter.mp hc).1
  have hwp : ∀ c ∈ ws, placeOf p c.key ≠ 0 := fun c hc => by rw [← e] at hc; simpa using (List.mem_filter.mp hc).2
  have hwm : ∀ c ∈ cs, placeOf p c.key ≠ 0 → c ∈ ws := fun c hc h => by rw [← e]; exact List.mem_filter.mpr ⟨hc, by simpa using h⟩
  obtain ⟨I, q1, q2⟩ := reachOf_ok (ms := ms) (p := p) (src := src) w hws hs
  have gg := g.good w
  have hpos : ∀ k ∈ (reachOf ms ws p src).map (fun x => x.1), k ≠ 0 := fun k hk => by
    obtain ⟨x, hx, rfl⟩ := List.mem_map.mp hk
    obtain ⟨m, h1, h2⟩ := List.mem_map.mp (I.key x hx)
    rw [← h2]; exact w.pos m h1
  -- within each closed set
  have least : ∀ T : Nat → Bool, (∀ c ∈ src, c.takers.all T = true) → Closed cs (placeOf p) T → ∀ k ∈ (reachOf ms ws p src).map (fun x => x.1), T k = true := fun T hT hc k hk => by
    have := reachOf_in (ms := ms) (cs := ws) (src := src) (p := p) (T := fun k => T k && k != 0) (fun c hcc hTc => by
      simp only [Bool.and_eq_true, bne_iff_ne, ne_eq] at hTc
      have h1 := hc c (hws c hcc) hTc.2 hTc.1
      refine List.all_eq_true.mpr fun t ht => ?_
      have h2 := w.tpos (hws c hcc) ht
      simp [List.all_eq_true.mp h1 t ht, h2]) (fun c hcc => List.all_eq_true.mpr fun t ht => by
      have h2 := w.tpos (hs c hcc).1 ht
      simp [List.all_eq_true.mp (hT c hcc) t ht, h2])
    obtain ⟨x, hx, rfl⟩ := List.mem_map.mp hk
    have z := this x hx
    simp only [Bool.and_eq_true] at z
    exact z.1
  have hclosed : Closed cs (placeOf p) (fun k => decide (k ∈ (reachOf ms ws p src).map fun x => x.1)) := fun c hc h0 hT =>
    List.all_eq_true.mpr fun t ht => decide_eq_true (q2 c (hwm c hc h0) (of_decide_eq_true hT) t ht)
  have hfull : Full ms cs (placeOf p) (fun k => decide (k ∈ (reachOf ms ws p src).map fun x => x.1)) := fun m hm hT => by
    refine Classical.byContradiction fun hn => ?_
    -- the union of the sets that prove who is left
    let U : Nat → Bool := fun k => @decide (∃ c, ∃ _ : c ∈ src, ∃ T : Nat → Bool, c.takers.all T = true ∧ roomT ms T ≤ keptT ws T ∧ T k = true) (Classical.propDecidable _)
    have hU : ∀ k, U k = true ↔ ∃ c, ∃ _ : c ∈ src, ∃ T : Nat → Bool, c.takers.all T = true ∧ roomT ms T ≤ keptT ws T ∧ T k = true := fun k => @decide_eq_true_iff _ (Classical.propDecidable _)
    have h1 : ∀ c ∈ src, c.takers.all U = true := fun c hc => by
      obtain ⟨T, a, b⟩ := hl c hc
      exact List.all_eq_true.mpr fun t ht => (hU t).mpr ⟨c, hc, T, a, b, List.all_eq_true.mp a t ht⟩
    have h2 : Closed cs (placeOf p) U := fun d hd h0 hT => by
      obtain ⟨c, hc, T, a, b, hk⟩ := (hU _).mp hT
      have z := (of_tight w gg (T := T) (by rw [e]; exact b)).1 d hd h0 hk
      exact List.all_eq_true.mpr fun t ht => (hU t).mpr ⟨c, hc, T, a, b, List.all_eq_true.mp z t ht⟩
    obtain ⟨c, hc, T, a, b, hk⟩ := (hU _).mp (least U h1 h2 m.key (of_decide_eq_true hT))
    exact hn ((of_tight w gg (T := T) (by rw [e]; exact b)).2 m hm hk)
  refine ⟨I.nd, I.key, fun c hc => List.all_eq_true.mpr fun t ht => decide_eq_true (q1 c hc t ht), ?_, fun T hT ht => ?_⟩
  · have := tight_of w gg hclosed hfull
    rw [e] at this
    exact Nat.le_of_eq this.symm
  · exact least T hT (of_tight w gg (by rw [e]; exact ht)).1
theorem keptT_filter (q : Client → Bool) (l : List Client) (T : Nat → Bool) : keptT l T = keptT (l.filter q) T + keptT (l.filter fun c => !q c) T := by
  induction l with
  | nil => rfl
  | cons c l ih =>
    rw [keptT_cons, ih, List.filter_cons, List.filter_cons]
    cases q c <;> simp only [Bool.not_true, Bool.not_false, if_true, if_false, Bool.false_eq_true, keptT_cons] <;> omega
theorem len_filter (q : Client → Bool) (l : List Client) : l.length = (l.filter q).length + (l.filter fun c => !q c).length := by
  induction l with
  | nil => rfl
  | cons c l ih =>
    rw [List.filter_cons, List.filter_cons, List.length_cons, ih]
    cases q c <;> simp only [Bool.not_true, Bool.not_false, if_true, if_false, Bool.false_eq_true, List.length_cons] <;> omega
theorem keptT_le (l : List Client) (T : Nat → Bool) : keptT l T ≤ l.length := List.countP_le_length
theorem keptT_full (l : List Client) (T : Nat → Bool) : keptT l T = l.length ↔ ∀ c ∈ l, c.takers.all T = true := List.countP_eq_length
/-- the bound of a set is the number of clients moved: it's tight, and keeps all who are left -/
theorem bound_iff (w : Wf ms cs) (T : Nat → Bool) : roomT ms T + (cs.length - keptT cs T) = (movedOf ms cs).length ↔
    (∀ c ∈ cs.filter (fun c => placeOf (placing ms cs cs []) c.key == 0), c.takers.all T = true) ∧ roomT ms T ≤ keptT (movedOf ms cs) T := by
  have h1 := keptT_filter (fun c => placeOf (placing ms cs cs []) c.key != 0) cs T
  have h2 : (cs.filter fun c => !(placeOf (placing ms cs cs []) c.key != 0)) = cs.filter fun c => placeOf (placing ms cs cs []) c.key == 0 := List.filter_congr fun c _ => by
    cases h : placeOf (placing ms cs cs []) c.key == 0 <;> simp [bne, h]
  rw [h2] at h1
  have h3 : (cs.filter fun c => placeOf (placing ms cs cs []) c.key != 0) = movedOf ms cs := rfl
  rw [h3] at h1
  have h4 : cs.length = (movedOf ms cs).length + (cs.filter fun c => placeOf (placing ms cs cs []) c.key == 0).length := by
    rw [← h3, ← h2]
    exact len_filter _ cs
  have h5 := moved_hall w T
  have h6 := keptT_le (movedOf ms cs) T
  have h7 := keptT_le (cs.filter fun c => placeOf (placing ms cs cs []) c.key == 0) T
  rw [← keptT_full]
  omega
theorem left_notin (w : Wf ms cs) {c : Client} (h : c ∈ cs.filter (fun c => placeOf (placing ms cs cs []) c.key == 0)) : c ∈ cs ∧ c ∉ movedOf ms cs ∧ placeOf (placing ms cs cs []) c.key = 0 := by
  obtain ⟨h1, h2⟩ := List.mem_filter.mp h
  have h2 : placeOf (placing ms cs cs []) c.key = 0 := by simpa using h2
  refine ⟨h1, fun z => ?_, h2⟩
  have : (placeOf (placing ms cs cs []) c.key != 0) = true := (List.mem_filter.mp z).2
  rw [h2] at this; cases this
/-- the cover's reach -/
theorem cover_least (w : Wf ms cs) : ∃ R : List Nat, coverOf ms cs = setOf R ∧ R.Nodup ∧ (∀ k ∈ R, k ∈ ms.map fun m => m.key) ∧
    (roomT ms (fun k => decide (k ∈ R)) + (cs.length - keptT cs (fun k => decide (k ∈ R))) = (movedOf ms cs).length) ∧
    ∀ T : Nat → Bool, roomT ms T + (cs.length - keptT cs T) = (movedOf ms cs).length → ∀ k ∈ R, T k = true := by
  have G := (placing_nil w (goC_ok (ms := ms) (cs := cs))).1
  obtain ⟨a, b, c, d, e⟩ := reach_least (ms := ms) (cs := cs) (ws := movedOf ms cs) (src := cs.filter fun c => placeOf (placing ms cs cs []) c.key == 0) w G rfl (fun c hc => ⟨(left_notin w hc).1, (left_notin w hc).2.2⟩)
    (fun c hc => moved_left w (left_notin w hc).1 (left_notin w hc).2.1)
  refine ⟨_, rfl, a, fun k hk => ?_, (bound_iff w _).mpr ⟨c, d⟩, fun T hT => ?_⟩
  · obtain ⟨x, hx, rfl⟩ := List.mem_map.mp hk
    exact b x hx
  · obtain ⟨h1, h2⟩ := (bound_iff w T).mp hT
    exact e T h1 h2
/-- the reach that tells why -/
theorem why_least {b : List Client} {c : Client} (w : Wf ms (b ++ [c])) (hb : ∀ T, keptT b T ≤ roomT ms T) (hl : ∃ T : Nat → Bool, c.takers.all T = true ∧ roomT ms T ≤ keptT b T) :
    ∃ R : List Nat, setOf ((reachOf ms b (placing ms b b []) [c]).map fun x => x.1) = setOf R ∧ R.Nodup ∧ (∀ k ∈ R, k ∈ ms.map fun m => m.key) ∧
    c.takers.all (fun k => decide (k ∈ R)) = true ∧ keptT b (fun k => decide (k ∈ R)) = roomT ms (fun k => decide (k ∈ R)) ∧
    ∀ T : Nat → Bool, c.takers.all T = true → keptT b T = roomT ms T → ∀ k ∈ R, T k = true := by
  have wb : Wf ms b := w.sub (List.sublist_append_left b [c])
  have G := (placing_nil wb (goC_ok (ms := ms) (cs := b))).1
  have hm : placedL b (placeOf (placing ms b b [])) = b := moved_all wb hb
  have hcn : placeOf (placing ms b b []) c.key = 0 := by
    refine Classical.byContradiction fun z => ?_
    obtain ⟨d, hd, e, _⟩ := G.mem _ (placeOf_mem z)
    have := w.ck
    rw [List.map_append, List.nodup_append] at this
    exact this.2.2 d.key (List.mem_map.mpr ⟨d, hd, rfl⟩) c.key (by simp) e
  have G' : GoodP ms (b ++ [c]) (placing ms b b []) := by
    refine ⟨G.nd, fun x hx => ?_, fun m hm => ?_⟩
    · obtain ⟨d, hd, e⟩ := G.mem x hx
      exact ⟨d, List.mem_append_left _ hd, e⟩
    · have := G.cap m hm
      unfold cnt at this ⊢
      rw [List.countP_append]
      have e : [c].countP (fun c => placeOf (placing ms b b []) c.key == m.key) = 0 := by
        rw [List.countP_eq_zero]
        intro d hd
        obtain rfl := List.mem_singleton.mp hd
        rw [hcn]
        intro z
        have z : 0 = m.key := by simpa using z
        exact w.pos m hm z.symm
      omega
  have hP : placedL (b ++ [c]) (placeOf (placing ms b b [])) = b := by
    rw [placedL_append, hm, placedL_nil (l := [c]) (fun d hd => by obtain rfl := List.mem_singleton.mp hd; exact hcn), List.append_nil]
  obtain ⟨x1, x2, x3, x4, x5⟩ := reach_least (ms := ms) (cs := b ++ [c]) (ws := b) (src := [c]) w G' hP (fun d hd => by obtain rfl := List.mem_singleton.mp hd; exact ⟨by simp, hcn⟩)
    (fun d hd => by obtain rfl := List.mem_singleton.mp hd; exact hl)
  refine ⟨_, rfl, x1, fun k hk => ?_, x3 c (List.mem_singleton.mpr rfl), Nat.le_antisymm (hb _) x4, fun T hT ht => x5 T (fun d hd => by obtain rfl := List.mem_singleton.mp hd; exact hT) (Nat.le_of_eq ht.symm)⟩
  obtain ⟨x, hx, rfl⟩ := List.mem_map.mp hk
  exact x2 x hx
end
end Cm
namespace Cm
open Vbchaj

/-! ### sets of members as numbers -/
def setN (ks l : List Nat) : Nat := (l.map fun k => 2 ^ ks.idxOf k).sum
def isW (a b : Nat) : Bool := decide (a &&& b = a)
def hasB (x b : Nat) : Bool := decide (x &&& b ≠ 0)
def TX (ks : List Nat) (X : Nat) : Nat → Bool := fun k => X.testBit (ks.idxOf k)
theorem testBit_add_pow {x i : Nat} (h : x.testBit i = false) (j : Nat) : (2 ^ i + x).testBit j = (decide (i = j) || x.testBit j) := by
  have e : 2 ^ i + x = 2 ^ i * (x / 2 ^ i + 1) + x % 2 ^ i := by
    have := Nat.div_add_mod x (2 ^ i)
    rw [Nat.mul_add, Nat.mul_one]
    omega
  have e0 : x = 2 ^ i * (x / 2 ^ i) + x % 2 ^ i := (Nat.div_add_mod x (2 ^ i)).symm
  have hl : x % 2 ^ i < 2 ^ i := Nat.mod_lt _ (Nat.two_pow_pos i)
  rw [e, Nat.testBit_two_pow_mul_add _ hl]
  have q : x.testBit j = if j < i then (x % 2 ^ i).testBit j else (x / 2 ^ i).testBit (j - i) := by
    have := Nat.testBit_two_pow_mul_add (x / 2 ^ i) hl j
    rw [← e0] at this
    exact this
  rw [q]
  have h2 : (x / 2 ^ i).testBit 0 = false := by
    rw [Nat.testBit_div_two_pow, Nat.zero_add]; exact h
  have h3 : (x / 2 ^ i) % 2 = 0 := by
    rw [Nat.testBit_zero] at h2
    have := of_decide_eq_false h2
    omega
  by_cases hj : j < i
  · rw [if_pos hj, if_pos hj, decide_eq_false (by omega), Bool.false_or]
  · rw [if_neg hj, if_neg hj]
    by_cases hij : i = j
    · subst hij
      rw [Nat.sub_self, Nat.testBit_zero]
      have : (x / 2 ^ i + 1) % 2 = 1 := by omega
      rw [this]; simp
    · obtain ⟨d, hd⟩ : ∃ d, j - i = d + 1 := ⟨j - i - 1, by omega⟩
      rw [hd, Nat.testBit_add_one, Nat.testBit_add_one, decide_eq_false hij, Bool.false_or]
      congr 1
      omega
theorem idxOf_inj {ks : List Nat} {a b : Nat} (ha : a ∈ ks) (h : ks.idxOf a = ks.idxOf b) : a = b := by
  have h1 := List.getElem_idxOf (List.idxOf_lt_length_of_mem ha)
  have hb : ks.idxOf b < ks.length := by rw [← h]; exact List.idxOf_lt_length_of_mem ha
  have h2 := List.getElem_idxOf hb
  rw [← h1, ← h2]
  congr 1
theorem setN_bit {ks : List Nat} : ∀ {l : List Nat}, l.Nodup → (∀ k ∈ l, k ∈ ks) → ∀ j, (setN ks l).testBit j = decide (∃ k ∈ l, ks.idxOf k = j)
  | [], _, _, j => by simp [setN]
  | k :: l, nd, hs, j => by
    obtain ⟨h1, h2⟩ := List.nodup_cons.mp nd
    have ih := setN_bit h2 (fun k hk => hs k (List.mem_cons_of_mem _ hk))
    have h0 : (setN ks l).testBit (ks.idxOf k) = false := by
      rw [ih, decide_eq_false_iff_not]
      rintro ⟨k', hk', e⟩
      exact h1 (idxOf_inj (hs k' (List.mem_cons_of_mem _ hk')) e ▸ hk')
    have e : setN ks (k :: l) = 2 ^ ks.idxOf k + setN ks l := by
      unfold setN
      rw [List.map_cons, List.sum_cons]
    rw [e, testBit_add_pow h0, ih, Bool.eq_iff_iff, Bool.or_eq_true, decide_eq_true_iff, decide_eq_true_iff, decide_eq_true_iff]
    constructor
    · rintro (h | ⟨k', hk', e⟩)
      · exact ⟨k, List.mem_cons_self, h⟩
      · exact ⟨k', List.mem_cons_of_mem _ hk', e⟩
    · rintro ⟨k', hk', e⟩
      rcases List.mem_cons.mp hk' with z | hk'
      · exact .inl (z ▸ e)
      · exact .inr ⟨k', hk', e⟩
theorem setN_lt {ks l : List Nat} (nd : l.Nodup) (hs : ∀ k ∈ l, k ∈ ks) : setN ks l < 2 ^ ks.length := by
  refine Nat.lt_pow_two_of_testBit _ fun i hi => ?_
  rw [setN_bit nd hs, decide_eq_false_iff_not]
  rintro ⟨k, hk, e⟩
  have := List.idxOf_lt_length_of_mem (hs k hk)
  omega
theorem TX_set {ks l : List Nat} (nd : l.Nodup) (hs : ∀ k ∈ l, k ∈ ks) {k : Nat} (hk : k ∈ ks) : TX ks (setN ks l) k = decide (k ∈ l) := by
  unfold TX
  rw [setN_bit nd hs, Bool.eq_iff_iff, decide_eq_true_iff, decide_eq_true_iff]
  constructor
  · rintro ⟨k', hk', e⟩
    exact idxOf_inj hk e.symm ▸ hk'
  · exact fun h => ⟨k, h, rfl⟩
theorem isW_iff (a b : Nat) : isW a b = true ↔ ∀ j, a.testBit j = true → b.testBit j = true := by
  unfold isW
  rw [decide_eq_true_iff]
  constructor
  · intro h j hj
    rw [← h, Nat.testBit_and] at hj
    rw [Bool.and_eq_true] at hj
    exact hj.2
  · intro h
    refine Nat.eq_of_testBit_eq fun j => ?_
    rw [Nat.testBit_and]
    cases e : a.testBit j with
    | true => rw [h j e]; rfl
    | false => rfl
theorem isW_set {ks l : List Nat} (nd : l.Nodup) (hs : ∀ k ∈ l, k ∈ ks) (X : Nat) : isW (setN ks l) X = l.all (TX ks X) := by
  rw [Bool.eq_iff_iff, isW_iff, List.all_eq_true]
  constructor
  · intro h k hk
    exact h _ (by rw [setN_bit nd hs]; exact decide_eq_true ⟨k, hk, rfl⟩)
  · intro h j hj
    rw [setN_bit nd hs] at hj
    obtain ⟨k, hk, rfl⟩ := of_decide_eq_true hj
    exact h k hk
theorem hasB_pow (x i : Nat) : hasB x (2 ^ i) = x.testBit i := by
  unfold hasB
  cases h : x.testBit i with
  | true =>
    refine decide_eq_true fun z => ?_
    have : (x &&& 2 ^ i).testBit i = true := by rw [Nat.testBit_and, h, Nat.testBit_two_pow_self]; rfl
    rw [z] at this; simp at this
  | false =>
    refine decide_eq_false fun z => z ?_
    refine Nat.eq_of_testBit_eq fun j => ?_
    rw [Nat.testBit_and, Nat.testBit_two_pow, Nat.zero_testBit]
    by_cases e : i = j
    · subst e; rw [h]; rfl
    · rw [decide_eq_false e, Bool.and_false]
/-- a set as a number -/
def XT (ks : List Nat) (T : Nat → Bool) : Nat := setN ks (ks.filter T)
theorem XT_lt {ks : List Nat} (nd : ks.Nodup) (T : Nat → Bool) : XT ks T < 2 ^ ks.length := setN_lt (nd.sublist List.filter_sublist) fun k hk => (List.mem_filter.mp hk).1
theorem TX_XT {ks : List Nat} (nd : ks.Nodup) (T : Nat → Bool) {k : Nat} (hk : k ∈ ks) : TX ks (XT ks T) k = T k := by
  unfold XT
  rw [TX_set (nd.sublist List.filter_sublist) (fun k hk => (List.mem_filter.mp hk).1) hk, Bool.eq_iff_iff, decide_eq_true_iff, List.mem_filter]
  exact ⟨fun h => h.2, fun h => ⟨hk, h⟩⟩

/-! ### slacks -/
def roomSl (ms : List Member) : List Int := ms.foldl (fun f m => f ++ f.map fun s => s + (m.room : Int)) [0]
def goesIn (s : List Int) (own : Nat) : Bool := (List.range s.length).all fun x => !isW own x || decide (0 < s.getD x 0)
def keptToo (s : List Int) (own : Nat) : List Int := (List.range s.length).map fun x => s.getD x 0 - (if isW own x = true then 1 else 0)
def isFreeB (s : List Int) (own bit : Nat) : Bool := (List.range s.length).all fun x => !(hasB x bit && !isW own x) || decide (0 < s.getD x 0)
def withoutPlace (s : List Int) (own bit : Nat) : List Int := (List.range s.length).map fun x => s.getD x 0 + (if isW own x = true then 1 else 0) - (if hasB x bit = true then 1 else 0)
def movedBy {α : Type} (ks : List Nat) (f : α → Client) : List Int → List α → List α → List α
  | _, found, [] => found
  | s, found, c :: l => if goesIn s (setN ks (f c).takers) = true then movedBy ks f (keptToo s (setN ks (f c).takers)) (found ++ [c]) l else movedBy ks f s found l
def allSl (ks : List Nat) (s : List Int) (cs : List Client) : List Int := cs.foldl (fun s c => keptToo s (setN ks c.takers)) s
def freeOf (ks : List Nat) (s : List Int) (c : Client) : List Nat := c.takers.filter fun k => isFreeB s (setN ks c.takers) (2 ^ ks.idxOf k)
def goalsOf (ks : List Nat) : List Int → List Client → List Nat
  | _, [] => []
  | s, c :: l => (freeOf ks s c).getD 0 0 :: goalsOf ks (withoutPlace s (setN ks c.takers) (2 ^ ks.idxOf ((freeOf ks s c).getD 0 0))) l
def GoalsOk (ks : List Nat) : List Int → List Client → Prop
  | _, [] => True
  | s, c :: l => 0 < (freeOf ks s c).length ∧ GoalsOk ks (withoutPlace s (setN ks c.takers) (2 ^ ks.idxOf ((freeOf ks s c).getD 0 0))) l
/-- what the slacks are -/
def SL (ms : List Member) (L : List Client) : List Int := (List.range (2 ^ ms.length)).map fun X => (roomT ms (TX (keysM ms) X) : Int) - (keptT L (TX (keysM ms) X) : Int)

theorem roomT_append (ms ns : List Member) (T : Nat → Bool) : roomT (ms ++ ns) T = roomT ms T + roomT ns T := by
  unfold roomT
  rw [List.map_append, List.sum_append]
theorem roomT_congr {ms : List Member} {T U : Nat → Bool} (h : ∀ m ∈ ms, T m.key = U m.key) : roomT ms T = roomT ms U := by
  unfold roomT
  refine sum_map_congr _ _ _ fun m hm => ?_
  rw [h m hm]
theorem keptT_congr {L : List Client} {T U : Nat → Bool} (h : ∀ c ∈ L, ∀ t ∈ c.takers, T t = U t) : keptT L T = keptT L U := by
  unfold keptT
  refine List.countP_congr fun c hc => ?_
  rw [List.all_eq_true, List.all_eq_true]
  exact ⟨fun z t ht => by rw [← h c hc t ht]; exact z t ht, fun z t ht => by rw [h c hc t ht]; exact z t ht⟩
theorem keptT_nil (T : Nat → Bool) : keptT [] T = 0 := rfl
theorem roomSl_snoc (ms : List Member) (m : Member) : roomSl (ms ++ [m]) = roomSl ms ++ (roomSl ms).map fun s => s + (m.room : Int) := by
  unfold roomSl
  rw [List.foldl_append]
  rfl
theorem roomT_mapB (ks : List Nat) (ms : List Member) (hk : keysM ms = ks) (nd : ks.Nodup) (e : List Nat) (X : Nat) : roomT ms (TX (ks ++ e) X) = roomT ms (TX ks X) := by
  refine roomT_congr fun m hm => ?_
  unfold TX
  rw [List.idxOf_append, if_pos]
  rw [← hk]; exact List.mem_map.mpr ⟨m, hm, rfl⟩
theorem rooms_eq (ms : List Member) : (keysM ms).Nodup → roomSl ms = (List.range (2 ^ ms.length)).map fun X => (roomT ms (TX (keysM ms) X) : Int) := by
  have key : ∀ (k : Nat) (ms : List Member), ms.length = k → (keysM ms).Nodup → roomSl ms = (List.range (2 ^ ms.length)).map fun X => (roomT ms (TX (keysM ms) X) : Int) := by
    intro k
    induction k with
    | zero =>
      intro ms h _
      obtain rfl := List.eq_nil_of_length_eq_zero h
      rfl
    | succ k ih =>
      intro ms h nd
      have hne : ms ≠ [] := by rintro rfl; cases h
      obtain ⟨l, m, rfl⟩ : ∃ l m, ms = l ++ [m] := ⟨ms.dropLast, ms.getLast hne, (List.dropLast_concat_getLast hne).symm⟩
      have hl : l.length = k := by simpa using h
      have ek : keysM (l ++ [m]) = keysM l ++ [m.key] := by unfold keysM; rw [List.map_append]; rfl
      rw [ek, List.nodup_append] at nd
      rw [roomSl_snoc, ih l hl nd.1, List.length_append]
      show _ = (List.range (2 ^ (l.length + 1))).map _
      rw [Nat.two_pow_succ, List.range_add, List.map_append, List.map_map, List.map_map]
      have hkl : (keysM l).length = l.length := by unfold keysM; rw [List.length_map]
      have hmk : m.key ∉ keysM l := fun z => nd.2.2 _ z m.key List.mem_cons_self rfl
      have hid : (keysM l ++ [m.key]).idxOf m.key = l.length := by
        rw [List.idxOf_append, if_neg hmk]; simp [hkl]
      congr 1
      · refine List.map_congr_left fun X hX => ?_
        have hX : X < 2 ^ l.length := List.mem_range.mp hX
        rw [roomT_append, ek, roomT_mapB (keysM l) l rfl nd.1]
        have : roomT [m] (TX (keysM l ++ [m.key]) X) = 0 := by
          show (if TX (keysM l ++ [m.key]) X m.key = true then m.room else 0) + 0 = 0
          unfold TX
          rw [hid, Nat.testBit_lt_two_pow hX]
          rfl
        rw [this]; rfl
      · refine List.map_congr_left fun X hX => ?_
        have hX : X < 2 ^ l.length := List.mem_range.mp hX
        show (roomT l (TX (keysM l) X) : Int) + (m.room : Int) = (roomT (l ++ [m]) (TX (keysM (l ++ [m])) (2 ^ l.length + X)) : Int)
        rw [roomT_append, ek, roomT_mapB (keysM l) l rfl nd.1]
        have h1 : roomT [m] (TX (keysM l ++ [m.key]) (2 ^ l.length + X)) = m.room := by
          show (if TX (keysM l ++ [m.key]) (2 ^ l.length + X) m.key = true then m.room else 0) + 0 = m.room
          unfold TX
          rw [hid, Nat.testBit_two_pow_add_eq, Nat.testBit_lt_two_pow hX]
          rfl
        have h2 : roomT l (TX (keysM l) (2 ^ l.length + X)) = roomT l (TX (keysM l) X) := roomT_congr fun x hx => by
          unfold TX
          refine Nat.testBit_two_pow_add_gt ?_ X
          rw [← hkl]
          exact List.idxOf_lt_length_of_mem (List.mem_map.mpr ⟨x, hx, rfl⟩)
        rw [h1, h2]
        omega
  exact key _ ms rfl
theorem rooms_SL (ms : List Member) (nd : (keysM ms).Nodup) : roomSl ms = SL ms [] := by
  rw [rooms_eq ms nd]
  unfold SL
  refine List.map_congr_left fun X _ => ?_
  rw [keptT_nil]; simp
theorem SL_len (ms : List Member) (L : List Client) : (SL ms L).length = 2 ^ ms.length := by unfold SL; simp
theorem SL_get (ms : List Member) (L : List Client) {X : Nat} (h : X < 2 ^ ms.length) : (SL ms L).getD X 0 = (roomT ms (TX (keysM ms) X) : Int) - (keptT L (TX (keysM ms) X) : Int) := by
  unfold SL
  rw [List.getD_eq_getElem?_getD, List.getElem?_map, List.getElem?_range h]
  rfl

section
variable {ms : List Member} {cs : List Client}
structure Wn (ms : List Member) (cs : List Client) : Prop extends Wf ms cs where
  tn : ∀ c ∈ cs, c.takers.Nodup
theorem klen : (keysM ms).length = ms.length := by unfold keysM; rw [List.length_map]
/-- every set has its number -/
theorem all_sets (w : Wn ms cs) {P : Nat → Prop} {L : List Client} (hL : ∀ d ∈ L, d ∈ cs) {c : Client} (hc : c ∈ cs) (Q : (Nat → Bool) → Prop)
    (hQ : ∀ T U : Nat → Bool, (∀ k ∈ keysM ms, T k = U k) → (Q T ↔ Q U)) (h : ∀ X, X < 2 ^ ms.length → Q (TX (keysM ms) X)) (T : Nat → Bool) : Q T := by
  have := h (XT (keysM ms) T) (by rw [← klen]; exact XT_lt w.nk T)
  exact (hQ _ _ fun k hk => TX_XT w.nk T hk).mp this
theorem goesIn_iff (w : Wn ms cs) {L : List Client} (hL : ∀ d ∈ L, d ∈ cs) {c : Client} (hc : c ∈ cs) : goesIn (SL ms L) (setN (keysM ms) c.takers) = true ↔ Fits ms L c := by
  unfold goesIn
  rw [List.all_eq_true, SL_len]
  have iw : ∀ X, isW (setN (keysM ms) c.takers) X = c.takers.all (TX (keysM ms) X) := fun X => isW_set (w.tn c hc) (w.tk c hc) X
  constructor
  · intro h T
    refine all_sets w (P := fun _ => True) hL hc (fun T => c.takers.all T = true → keptT L T < roomT ms T) (fun T U hTU => ?_) (fun X hX hT => ?_) T
    · have e1 : c.takers.all T = c.takers.all U := by
        rw [Bool.eq_iff_iff, List.all_eq_true, List.all_eq_true]
        exact ⟨fun z t ht => by rw [← hTU t (w.tk c hc t ht)]; exact z t ht, fun z t ht => by rw [hTU t (w.tk c hc t ht)]; exact z t ht⟩
      rw [e1, keptT_congr fun d hd t ht => hTU t (w.tk d (hL d hd) t ht), roomT_congr fun m hm => hTU _ (List.mem_map.mpr ⟨m, hm, rfl⟩)]
    · have z := h X (List.mem_range.mpr hX)
      rw [iw, hT, SL_get ms L hX] at z
      simp only [Bool.not_true, Bool.false_or, decide_eq_true_iff] at z
      omega
  · intro h X hX
    have hX := List.mem_range.mp hX
    rw [iw, SL_get ms L hX]
    cases e : c.takers.all (TX (keysM ms) X) with
    | false => rfl
    | true =>
      have := h _ e
      simp only [Bool.not_true, Bool.false_or, decide_eq_true_iff]
      omega
theorem isW_c (w : Wn ms cs) {c : Client} (hc : c ∈ cs) (X : Nat) : isW (setN (keysM ms) c.takers) X = c.takers.all (TX (keysM ms) X) := isW_set (w.tn c hc) (w.tk c hc) X
theorem keptToo_eq (w : Wn ms cs) (L : List Client) {c : Client} (hc : c ∈ cs) : keptToo (SL ms L) (setN (keysM ms) c.takers) = SL ms (L ++ [c]) := by
  unfold keptToo
  rw [SL_len]
  show _ = (List.range (2 ^ ms.length)).map _
  refine List.map_congr_left fun X hX => ?_
  have hX := List.mem_range.mp hX
  rw [SL_get ms L hX, isW_c w hc, keptT_append, keptT_one]
  split <;> omega
theorem isFree_iff (w : Wn ms cs) {L : List Client} (hL : ∀ d ∈ L, d ∈ cs) {c : Client} (hc : c ∈ cs) {m : Nat} (hm : m ∈ c.takers) : isFreeB (SL ms L) (setN (keysM ms) c.takers) (2 ^ (keysM ms).idxOf m) = true ↔ FreeT ms L c m := by
  unfold isFreeB
  rw [List.all_eq_true, SL_len]
  have iw : ∀ X, isW (setN (keysM ms) c.takers) X = c.takers.all (TX (keysM ms) X) := fun X => isW_set (w.tn c hc) (w.tk c hc) X
  constructor
  · intro h T
    refine all_sets w (P := fun _ => True) hL hc (fun T => T m = true → ¬ c.takers.all T = true → keptT L T < roomT ms T) (fun T U hTU => ?_) (fun X hX hT hn => ?_) T
    · have e1 : c.takers.all T = c.takers.all U := by
        rw [Bool.eq_iff_iff, List.all_eq_true, List.all_eq_true]
        exact ⟨fun z t ht => by rw [← hTU t (w.tk c hc t ht)]; exact z t ht, fun z t ht => by rw [hTU t (w.tk c hc t ht)]; exact z t ht⟩
      rw [e1, hTU m (w.tk c hc m hm), keptT_congr fun d hd t ht => hTU t (w.tk d (hL d hd) t ht), roomT_congr fun m hm => hTU _ (List.mem_map.mpr ⟨m, hm, rfl⟩)]
    · have z := h X (List.mem_range.mpr hX)
      have hT' : X.testBit ((keysM ms).idxOf m) = true := hT
      rw [iw, hasB_pow, hT', Bool.eq_false_iff.mpr hn, SL_get ms L hX] at z
      simp only [Bool.not_false, Bool.and_self, Bool.not_true, Bool.false_or, decide_eq_true_iff] at z
      omega
  · intro h X hX
    have hX := List.mem_range.mp hX
    rw [iw, hasB_pow, SL_get ms L hX]
    cases e : c.takers.all (TX (keysM ms) X) with
    | true => simp
    | false =>
      cases e2 : X.testBit ((keysM ms).idxOf m) with
      | false => simp
      | true =>
        have := h (TX (keysM ms) X) e2 (by rw [e]; exact Bool.false_ne_true)
        simp only [Bool.not_false, Bool.and_self, Bool.not_true, Bool.false_or, decide_eq_true_iff]
        omega
theorem keysM_without (m : Nat) : keysM (Vbchaj.without ms m) = keysM ms := keys_without m
theorem withoutPlace_eq (w : Wn ms cs) {l : List Client} {c : Client} (hc : c ∈ cs) {m : Nat} (hm : m ∈ c.takers) (h0 : 0 < roomOf ms m) :
    withoutPlace (SL ms (c :: l)) (setN (keysM ms) c.takers) (2 ^ (keysM ms).idxOf m) = SL (Vbchaj.without ms m) l := by
  unfold withoutPlace
  have hlen : (Vbchaj.without ms m).length = ms.length := by unfold Vbchaj.without; rw [List.length_map]
  rw [SL_len]
  show _ = (List.range (2 ^ (Vbchaj.without ms m).length)).map _
  rw [hlen]
  refine List.map_congr_left fun X hX => ?_
  have hX := List.mem_range.mp hX
  have r := roomT_without (w.tk c hc m hm) w.nk h0 (TX (keysM ms) X)
  rw [SL_get ms _ hX, isW_c w hc, hasB_pow, keptT_cons, keysM_without]
  have e : TX (keysM ms) X m = X.testBit ((keysM ms).idxOf m) := rfl
  rw [e] at r
  split at r <;> split <;> omega

/-! ### the program's way is the specification's -/
theorem movedBy_eq (w : Wn ms cs) : ∀ (l L : List Client), (∀ d ∈ L ++ l, d ∈ cs) → movedBy (keysM ms) id (SL ms L) L l = greedyB (fun L c => goesIn (SL ms L) (setN (keysM ms) c.takers)) L l
  | [], _, _ => rfl
  | c :: l, L, h => by
    have hc : c ∈ cs := h c (by simp)
    show (if goesIn (SL ms L) (setN (keysM ms) c.takers) = true then movedBy (keysM ms) id (keptToo (SL ms L) (setN (keysM ms) c.takers)) (L ++ [c]) l else movedBy (keysM ms) id (SL ms L) L l) = if goesIn (SL ms L) (setN (keysM ms) c.takers) = true then _ else _
    rw [keptToo_eq w L hc, movedBy_eq w l (L ++ [c]) (fun d hd => h d (by simpa using hd)), movedBy_eq w l L (fun d hd => h d (by
      rcases List.mem_append.mp hd with z | z
      · exact List.mem_append_left _ z
      · exact List.mem_append_right _ (List.mem_cons_of_mem _ z)))]
theorem goes_ok (w : Wn ms cs) : Goes ms cs (fun L c => goesIn (SL ms L) (setN (keysM ms) c.takers)) := fun L c hL hc => goesIn_iff w hL hc
theorem moved_is (w : Wn ms cs) : movedBy (keysM ms) id (roomSl ms) [] cs = movedOf ms cs := by
  rw [rooms_SL ms w.nk, movedBy_eq w cs [] (fun d hd => hd), movedOf_eq w.toWf (goes_ok w)]
theorem movedBy_map {α β : Type} (ks : List Nat) (g : α → β) (f : β → Client) : ∀ (s : List Int) (L l : List α), (movedBy ks (fun a => f (g a)) s L l).map g = movedBy ks f s (L.map g) (l.map g)
  | _, _, [] => rfl
  | s, L, c :: l => by
    rw [List.map_cons]
    unfold movedBy
    split
    · rw [movedBy_map ks g f _ _ l, List.map_append]; rfl
    · exact movedBy_map ks g f _ _ l
theorem allSl_eq (w : Wn ms cs) : ∀ (l L : List Client), (∀ d ∈ l, d ∈ cs) → allSl (keysM ms) (SL ms L) l = SL ms (L ++ l)
  | [], L, _ => by simp [allSl]
  | c :: l, L, h => by
    show allSl (keysM ms) (keptToo (SL ms L) (setN (keysM ms) c.takers)) l = _
    rw [keptToo_eq w L (h c List.mem_cons_self), allSl_eq w l (L ++ [c]) (fun d hd => h d (List.mem_cons_of_mem _ hd)), List.append_assoc]
    rfl
theorem allSl_is (w : Wn ms cs) {l : List Client} (h : ∀ d ∈ l, d ∈ cs) : allSl (keysM ms) (roomSl ms) l = SL ms l := by
  rw [rooms_SL ms w.nk, allSl_eq w l [] h]; rfl
theorem Wn.sub {l : List Client} (w : Wn ms cs) (h : l.Sublist cs) : Wn ms l := ⟨w.toWf.sub h, fun c hc => w.tn c (h.subset hc)⟩
theorem Wn.without (w : Wn ms cs) (m : Nat) : Wn (Vbchaj.without ms m) cs := ⟨w.toWf.without m, w.tn⟩
theorem goals_eq : ∀ (l : List Client) (ms : List Member), Wn ms l → (∀ T, keptT l T ≤ roomT ms T) →
    GoalsOk (keysM ms) (SL ms l) l ∧ firstPlaces ms l = (l.zip (goalsOf (keysM ms) (SL ms l) l)).map fun x => (x.1.key, x.2)
  | [], ms, _, _ => ⟨trivial, rfl⟩
  | c :: l, ms, w, h => by
    obtain ⟨m, hm, hf, e, h0, hH⟩ := first_eq w.toWf h (fun k => isFreeB (SL ms (c :: l)) (setN (keysM ms) c.takers) (2 ^ (keysM ms).idxOf k)) fun m hm => isFree_iff w (fun _ h => h) List.mem_cons_self hm
    have hh : (freeOf (keysM ms) (SL ms (c :: l)) c).head? = some m := by
      unfold freeOf
      rw [List.head?_filter]; exact hf
    have hd : (freeOf (keysM ms) (SL ms (c :: l)) c).getD 0 0 = m := by
      rw [List.getD_eq_getElem?_getD, ← List.head?_eq_getElem?, hh]; rfl
    have hpos : 0 < (freeOf (keysM ms) (SL ms (c :: l)) c).length := by
      cases q : freeOf (keysM ms) (SL ms (c :: l)) c with
      | nil => rw [q] at hh; cases hh
      | cons _ _ => exact Nat.succ_pos _
    have wl : Wn (Vbchaj.without ms m) l := (w.sub (List.sublist_cons_self c l)).without m
    obtain ⟨i1, i2⟩ := goals_eq l (Vbchaj.without ms m) wl hH
    have ew := withoutPlace_eq (l := l) w List.mem_cons_self hm h0
    rw [keysM_without] at i1 i2
    constructor
    · show 0 < (freeOf (keysM ms) (SL ms (c :: l)) c).length ∧ GoalsOk (keysM ms) (withoutPlace _ _ (2 ^ (keysM ms).idxOf ((freeOf (keysM ms) (SL ms (c :: l)) c).getD 0 0))) l
      rw [hd, ew]
      exact ⟨hpos, i1⟩
    · show _ = ((c :: l).zip ((freeOf (keysM ms) (SL ms (c :: l)) c).getD 0 0 :: goalsOf (keysM ms) (withoutPlace _ _ (2 ^ (keysM ms).idxOf ((freeOf (keysM ms) (SL ms (c :: l)) c).getD 0 0))) l)).map _
      rw [hd, ew, e, i2]
      rfl
theorem goals_len : ∀ (ks : List Nat) (s : List Int) (l : List Client), (goalsOf ks s l).length = l.length
  | _, _, [] => rfl
  | ks, s, c :: l => by
    show (goalsOf ks _ l).length + 1 = l.length + 1
    rw [goals_len ks _ l]
end
end Cm
namespace Cm
open Vbchaj

/-! ### least sets, as numbers -/
def keysOf (ks : List Nat) (X : Nat) : List Nat := ((List.range ks.length).filter fun i => hasB X (2 ^ i)).map fun i => ks.getD i 0
def leastOf (Xs : List Nat) : Nat := Xs.foldl (fun a x => a &&& x) (Xs.getD 0 0)
def isProof (X own : Nat) (others : List Nat) (room : Int) : Bool := isW own X && decide (((others.filter fun o => isW o X).length : Int) = room)
def proofsOf (ms : List Member) (own : Nat) (others : List Nat) : List Nat := (List.range (roomSl ms).length).filter fun X => isProof X own others ((roomSl ms).getD X 0)
def boundsOf (ms : List Member) (owns : List Nat) : List Int := (List.range (roomSl ms).length).map fun X => (roomSl ms).getD X 0 + (((owns.filter fun o => !isW o X).length : Nat) : Int)
def coversOf (bs : List Int) (many : Int) : List Nat := (List.range bs.length).filter fun X => decide (bs.getD X 0 = many)

theorem foldl_and_bit (j : Nat) : ∀ (l : List Nat) (a : Nat), (l.foldl (fun a x => a &&& x) a).testBit j = (a.testBit j && l.all fun x => x.testBit j)
  | [], a => by simp
  | x :: l, a => by rw [List.foldl_cons, foldl_and_bit j l, Nat.testBit_and, List.all_cons, Bool.and_assoc]
theorem leastOf_eq {Xs : List Nat} {X0 : Nat} (h0 : X0 ∈ Xs) (h : ∀ X ∈ Xs, isW X0 X = true) : leastOf Xs = X0 := by
  have hg : Xs.getD 0 0 ∈ Xs := by
    cases Xs with
    | nil => cases h0
    | cons a l => exact List.mem_cons_self
  refine Nat.eq_of_testBit_eq fun j => ?_
  unfold leastOf
  rw [foldl_and_bit, Bool.eq_iff_iff, Bool.and_eq_true, List.all_eq_true]
  constructor
  · exact fun z => z.2 X0 h0
  · exact fun z => ⟨(isW_iff _ _).mp (h _ hg) j z, fun X hX => (isW_iff _ _).mp (h X hX) j z⟩
theorem number_mem (v : Nat) : ∀ (l : List Nat) (x : Nat), x ∈ number v l ↔ x = v ∨ x ∈ l
  | [], x => by simp [number]
  | y :: l, x => by
    unfold number
    split
    · simp
    · split
      · rename_i h; subst h; simp
      · rw [List.mem_cons, number_mem v l, List.mem_cons]
        constructor
        · rintro (h | h | h)
          · exact .inr (.inl h)
          · exact .inl h
          · exact .inr (.inr h)
        · rintro (h | h | h)
          · exact .inr (.inl h)
          · exact .inl h
          · exact .inr (.inr h)
theorem number_lt (v : Nat) : ∀ (l : List Nat), l.Pairwise (· < ·) → (number v l).Pairwise (· < ·)
  | [], _ => by simp [number]
  | y :: l, h => by
    obtain ⟨h1, h2⟩ := List.pairwise_cons.mp h
    unfold number
    split
    · rename_i hv
      refine List.pairwise_cons.mpr ⟨fun z hz => ?_, h⟩
      rcases List.mem_cons.mp hz with rfl | hz
      · exact hv
      · exact Nat.lt_trans hv (h1 z hz)
    · split
      · exact h
      · refine List.pairwise_cons.mpr ⟨fun z hz => ?_, number_lt v l h2⟩
        rcases (number_mem v l z).mp hz with rfl | hz
        · omega
        · exact h1 z hz
theorem setOf_mem (l : List Nat) (x : Nat) : x ∈ setOf l ↔ x ∈ l := by
  unfold setOf
  induction l with
  | nil => simp
  | cons a l ih => rw [List.foldr_cons, number_mem, ih, List.mem_cons]
theorem setOf_lt (l : List Nat) : (setOf l).Pairwise (· < ·) := by
  unfold setOf
  induction l with
  | nil => exact .nil
  | cons a l ih => rw [List.foldr_cons]; exact number_lt a _ ih
theorem lt_nodup {l : List Nat} (h : l.Pairwise (· < ·)) : l.Nodup := h.imp fun h => Nat.ne_of_lt h
theorem sorted_ext {l m : List Nat} (hl : l.Pairwise (· < ·)) (hm : m.Pairwise (· < ·)) (h : ∀ x, x ∈ l ↔ x ∈ m) : l = m := by
  refine List.Perm.eq_of_pairwise (le := (· < ·)) (fun a b _ _ h1 h2 => absurd (Nat.lt_trans h1 h2) (Nat.lt_irrefl _)) hl hm ?_
  exact (List.perm_ext_iff_of_nodup (lt_nodup hl) (lt_nodup hm)).mpr h
theorem keysOf_mem {ks : List Nat} (nd : ks.Nodup) (X k : Nat) : k ∈ keysOf ks X ↔ k ∈ ks ∧ TX ks X k = true := by
  unfold keysOf
  rw [List.mem_map]
  constructor
  · rintro ⟨i, hi, rfl⟩
    obtain ⟨h1, h2⟩ := List.mem_filter.mp hi
    have hl : i < ks.length := List.mem_range.mp h1
    rw [List.getD_eq_getElem?_getD, List.getElem?_eq_getElem hl]
    refine ⟨List.getElem_mem hl, ?_⟩
    show X.testBit (ks.idxOf ks[i]) = true
    rw [nd.idxOf_getElem i hl, ← hasB_pow]
    exact h2
  · rintro ⟨h1, h2⟩
    have hl := List.idxOf_lt_length_of_mem h1
    refine ⟨ks.idxOf k, List.mem_filter.mpr ⟨List.mem_range.mpr hl, by rw [hasB_pow]; exact h2⟩, ?_⟩
    rw [List.getD_eq_getElem?_getD, List.getElem?_eq_getElem hl]
    exact List.getElem_idxOf hl
theorem keysOf_lt {ks : List Nat} (h : ks.Pairwise (· < ·)) (X : Nat) : (keysOf ks X).Pairwise (· < ·) := by
  unfold keysOf
  rw [List.pairwise_map]
  have h0 : ((List.range ks.length).filter fun i => hasB X (2 ^ i)).Pairwise (· < ·) := (List.pairwise_lt_range (n := ks.length)).sublist List.filter_sublist
  refine (List.pairwise_and_iff.mpr ⟨h0, ?_⟩ : List.Pairwise (fun a b => a < b ∧ b < ks.length) _).imp ?_
  · refine List.Pairwise.imp_of_mem ?_ h0
    intro a b _ hb _
    exact List.mem_range.mp (List.mem_filter.mp hb).1
  · rintro a b ⟨hab, hb⟩
    have ha : a < ks.length := Nat.lt_trans hab hb
    rw [List.getD_eq_getElem?_getD, List.getElem?_eq_getElem ha, List.getD_eq_getElem?_getD, List.getElem?_eq_getElem hb]
    exact (List.pairwise_iff_getElem.mp h) a b ha hb hab
/-- a set of members told by rising keys -/
theorem keysOf_eq {ks R : List Nat} (h : ks.Pairwise (· < ·)) (nd : R.Nodup) (hs : ∀ k ∈ R, k ∈ ks) : keysOf ks (setN ks R) = setOf R := by
  refine sorted_ext (keysOf_lt h _) (setOf_lt R) fun x => ?_
  rw [keysOf_mem (lt_nodup h), setOf_mem]
  constructor
  · rintro ⟨h1, h2⟩
    rw [TX_set nd hs h1] at h2
    exact of_decide_eq_true h2
  · intro h1
    exact ⟨hs x h1, by rw [TX_set nd hs (hs x h1)]; exact decide_eq_true h1⟩

section
variable {ms : List Member} {cs : List Client}
theorem rooms_get (nd : (keysM ms).Nodup) {X : Nat} (h : X < 2 ^ ms.length) : (roomSl ms).getD X 0 = (roomT ms (TX (keysM ms) X) : Int) := by
  rw [rooms_SL ms nd, SL_get ms [] h, keptT_nil]; simp
theorem rooms_len (nd : (keysM ms).Nodup) : (roomSl ms).length = 2 ^ ms.length := by rw [rooms_SL ms nd, SL_len]
theorem owns_kept (w : Wn ms cs) {L : List Client} (hL : ∀ d ∈ L, d ∈ cs) (X : Nat) : ((L.map fun c => setN (keysM ms) c.takers).filter fun o => isW o X).length = keptT L (TX (keysM ms) X) := by
  unfold keptT
  rw [List.countP_eq_length_filter, List.filter_map, List.length_map]
  congr 1
  refine List.filter_congr fun c hc => ?_
  exact isW_c w (hL c hc) X
theorem owns_not (w : Wn ms cs) {L : List Client} (hL : ∀ d ∈ L, d ∈ cs) (X : Nat) : ((L.map fun c => setN (keysM ms) c.takers).filter fun o => !isW o X).length = L.length - keptT L (TX (keysM ms) X) := by
  have h := len_filter (fun c => c.takers.all (TX (keysM ms) X)) L
  have e : ((L.map fun c => setN (keysM ms) c.takers).filter fun o => !isW o X).length = (L.filter fun c => !(c.takers.all (TX (keysM ms) X))).length := by
    rw [List.filter_map, List.length_map]
    congr 1
    refine List.filter_congr fun c hc => ?_
    show (!isW _ X) = _
    rw [isW_c w (hL c hc) X]
  rw [e]
  unfold keptT
  rw [List.countP_eq_length_filter]
  omega
/-- a list of members as a set -/
theorem set_fit (w : Wn ms cs) {L : List Client} (hL : ∀ d ∈ L, d ∈ cs) {set : List Nat} (nd : set.Nodup) (hs : ∀ k ∈ set, k ∈ keysM ms) : keptT L (TX (keysM ms) (setN (keysM ms) set)) = keptT L (fun k => decide (k ∈ set)) :=
  keptT_congr fun c hc t ht => TX_set nd hs (w.tk c (hL c hc) t ht)
theorem set_room {set : List Nat} (nd : set.Nodup) (hs : ∀ k ∈ set, k ∈ keysM ms) : roomT ms (TX (keysM ms) (setN (keysM ms) set)) = roomT ms (fun k => decide (k ∈ set)) :=
  roomT_congr fun m hm => TX_set nd hs (List.mem_map.mpr ⟨m, hm, rfl⟩)
theorem inside_iff (l set : List Nat) : inside l set = l.all fun k => decide (k ∈ set) := by
  unfold inside
  congr 1
  funext x
  exact List.contains_eq_mem x set
theorem kept_iff (L : List Client) (set : List Nat) : kept L set = keptT L fun k => decide (k ∈ set) := by
  unfold kept keptT
  rw [List.countP_eq_length_filter]
  congr 1
  refine List.filter_congr fun c _ => inside_iff _ _
theorem sum_eq (l : List Nat) : Vbchaj.sum l = l.sum := by
  unfold Vbchaj.sum
  induction l with
  | nil => rfl
  | cons a l ih => rw [List.foldr_cons, ih, List.sum_cons]
theorem roomIn_eq (nk : (ms.map fun m => m.key).Nodup) : ∀ {set : List Nat}, set.Nodup → (∀ k ∈ set, k ∈ keysM ms) → roomIn ms set = roomT ms fun k => decide (k ∈ set)
  | [], _, _ => by
    have : roomT ms (fun k => decide (k ∈ ([] : List Nat))) = 0 := by
      unfold roomT
      have : (ms.map fun m => if decide (m.key ∈ ([] : List Nat)) = true then m.room else 0) = ms.map fun _ => 0 := List.map_congr_left fun m _ => by simp
      rw [this]
      clear this nk
      rename_i hsx
      clear hsx
      induction ms with
      | nil => rfl
      | cons m ms ih => rw [List.map_cons, List.sum_cons, ih]
    rw [this]; rfl
  | k :: set, nd, hs => by
    obtain ⟨h1, h2⟩ := List.nodup_cons.mp nd
    have ih := roomIn_eq nk h2 fun x hx => hs x (List.mem_cons_of_mem _ hx)
    have e : roomIn ms (k :: set) = roomOf ms k + roomIn ms set := by
      unfold roomIn
      rw [List.map_cons, sum_eq, sum_eq, List.sum_cons]
    rw [e, ih, ← roomT_single nk (hs k List.mem_cons_self)]
    unfold roomT
    rw [← sum_map_add]
    refine sum_map_congr _ _ _ fun m hm => ?_
    by_cases hk : m.key = k
    · have hn : ¬ m.key ∈ set := fun z => h1 (hk ▸ z)
      rw [if_pos (decide_eq_true hk), if_neg (fun z => hn (of_decide_eq_true z)), if_pos (decide_eq_true (by rw [hk]; exact List.mem_cons_self))]
      omega
    · by_cases hm : m.key ∈ set
      · rw [if_neg (fun z => hk (of_decide_eq_true z)), if_pos (decide_eq_true hm), if_pos (decide_eq_true (List.mem_cons_of_mem _ hm))]
        omega
      · rw [if_neg (fun z => hk (of_decide_eq_true z)), if_neg (fun z => hm (of_decide_eq_true z)), if_neg (fun z => (List.mem_cons.mp (of_decide_eq_true z)).elim hk hm)]
/-- a set's proof of a client -/
theorem isProof_iff (w : Wn ms cs) {b : List Client} (hb : ∀ d ∈ b, d ∈ cs) {c : Client} (hc : c ∈ cs) {X : Nat} (hX : X < 2 ^ ms.length) :
    isProof X (setN (keysM ms) c.takers) (b.map fun d => setN (keysM ms) d.takers) ((roomSl ms).getD X 0) = true ↔ c.takers.all (TX (keysM ms) X) = true ∧ keptT b (TX (keysM ms) X) = roomT ms (TX (keysM ms) X) := by
  unfold isProof
  rw [Bool.and_eq_true, decide_eq_true_iff, isW_c w hc, owns_kept w hb, rooms_get w.nk hX]
  constructor
  · rintro ⟨h1, h2⟩; exact ⟨h1, by omega⟩
  · rintro ⟨h1, h2⟩; exact ⟨h1, by omega⟩
theorem proves_eq (w : Wn ms cs) {c : Client} (hc : c ∈ cs) {set : List Nat} (nd : set.Nodup) (hs : ∀ k ∈ set, k ∈ keysM ms) :
    proves ms cs c set = isProof (setN (keysM ms) set) (setN (keysM ms) c.takers) ((movedOf ms (beforeOf cs c)).map fun d => setN (keysM ms) d.takers) ((roomSl ms).getD (setN (keysM ms) set) 0) := by
  have hb : ∀ d ∈ movedOf ms (beforeOf cs c), d ∈ cs := fun d hd => (List.mem_filter.mp (List.mem_filter.mp hd).1).1
  have hX : setN (keysM ms) set < 2 ^ ms.length := by rw [← klen]; exact setN_lt nd hs
  rw [Bool.eq_iff_iff, isProof_iff w hb hc hX, set_fit w hb nd hs, set_room nd hs]
  unfold proves
  rw [Bool.and_eq_true, beq_iff_eq, kept_iff, inside_iff, roomIn_eq w.nk nd hs]
  have e : c.takers.all (TX (keysM ms) (setN (keysM ms) set)) = c.takers.all fun k => decide (k ∈ set) := by
    rw [Bool.eq_iff_iff, List.all_eq_true, List.all_eq_true]
    exact ⟨fun z t ht => by rw [← TX_set nd hs (w.tk c hc t ht)]; exact z t ht, fun z t ht => by rw [TX_set nd hs (w.tk c hc t ht)]; exact z t ht⟩
  rw [e]
theorem boundOf_eq (w : Wn ms cs) {owns : List Nat} (ho : owns.Perm (cs.map fun c => setN (keysM ms) c.takers)) {set : List Nat} (nd : set.Nodup) (hs : ∀ k ∈ set, k ∈ keysM ms) :
    (boundsOf ms owns).getD (setN (keysM ms) set) 0 = (boundOf ms cs set : Int) ∧ setN (keysM ms) set < (boundsOf ms owns).length := by
  have hX : setN (keysM ms) set < 2 ^ ms.length := by rw [← klen]; exact setN_lt nd hs
  unfold boundsOf
  rw [rooms_len w.nk]
  constructor
  · rw [List.getD_eq_getElem?_getD, List.getElem?_map, List.getElem?_range hX]
    show (roomSl ms).getD (setN (keysM ms) set) 0 + _ = _
    rw [rooms_get w.nk hX, (ho.filter _).length_eq, owns_not w (fun d hd => hd), set_fit w (fun d hd => hd) nd hs, set_room nd hs]
    unfold boundOf
    rw [kept_iff, roomIn_eq w.nk nd hs]
    omega
  · simpa using hX
theorem bounds_get (w : Wn ms cs) {owns : List Nat} (ho : owns.Perm (cs.map fun c => setN (keysM ms) c.takers)) {X : Nat} (hX : X < 2 ^ ms.length) :
    (boundsOf ms owns).getD X 0 = ((roomT ms (TX (keysM ms) X) + (cs.length - keptT cs (TX (keysM ms) X)) : Nat) : Int) := by
  unfold boundsOf
  rw [rooms_len w.nk, List.getD_eq_getElem?_getD, List.getElem?_map, List.getElem?_range hX]
  show (roomSl ms).getD X 0 + _ = _
  rw [rooms_get w.nk hX, (ho.filter _).length_eq, owns_not w (fun d hd => hd)]
  omega
/-- the cover -/
theorem cover_eq (w : Wn ms cs) (hk : (keysM ms).Pairwise (· < ·)) {owns : List Nat} (ho : owns.Perm (cs.map fun c => setN (keysM ms) c.takers)) :
    keysOf (keysM ms) (leastOf (coversOf (boundsOf ms owns) ((movedOf ms cs).length : Int))) = coverOf ms cs ∧ 0 < (coversOf (boundsOf ms owns) ((movedOf ms cs).length : Int)).length := by
  obtain ⟨R, e, nd, hs', h1, h2⟩ := cover_least w.toWf
  have hs : ∀ k ∈ R, k ∈ keysM ms := hs'
  have hX : setN (keysM ms) R < 2 ^ ms.length := by rw [← klen]; exact setN_lt nd hs
  have hlen : (boundsOf ms owns).length = 2 ^ ms.length := by unfold boundsOf; rw [rooms_len w.nk]; simp
  have h0 : setN (keysM ms) R ∈ coversOf (boundsOf ms owns) ((movedOf ms cs).length : Int) := by
    refine List.mem_filter.mpr ⟨List.mem_range.mpr (by rw [hlen]; exact hX), decide_eq_true ?_⟩
    rw [bounds_get w ho hX, set_fit w (fun d hd => hd) nd hs, set_room nd hs, h1]
  have hl : leastOf (coversOf (boundsOf ms owns) ((movedOf ms cs).length : Int)) = setN (keysM ms) R := leastOf_eq h0 fun X hX => by
    obtain ⟨a, b⟩ := List.mem_filter.mp hX
    have a : X < 2 ^ ms.length := by rw [← hlen]; exact List.mem_range.mp a
    have b := of_decide_eq_true b
    rw [bounds_get w ho a] at b
    have := h2 (TX (keysM ms) X) (Int.ofNat.inj b)
    rw [isW_set nd hs]
    exact List.all_eq_true.mpr this
  rw [hl, keysOf_eq hk nd hs, e]
  exact ⟨rfl, List.length_pos_of_mem h0⟩
/-- why a client is left -/
theorem why_eq (w : Wn ms cs) (hk : (keysM ms).Pairwise (· < ·)) {pre post : List Client} {c : Client} (hcs : cs = pre ++ c :: post) (hb : beforeOf cs c = pre) (hn : c ∉ movedOf ms cs) :
    keysOf (keysM ms) (leastOf (proofsOf ms (setN (keysM ms) c.takers) ((movedOf ms (beforeOf cs c)).map fun d => setN (keysM ms) d.takers))) = whySet ms cs c ∧
    0 < (proofsOf ms (setN (keysM ms) c.takers) ((movedOf ms (beforeOf cs c)).map fun d => setN (keysM ms) d.takers)).length := by
  have hc : c ∈ cs := by rw [hcs]; simp
  have wp : Wf ms pre := w.toWf.sub (by rw [hcs]; exact List.sublist_append_left ..)
  have hbs : ∀ d ∈ movedOf ms pre, d ∈ cs := fun d hd => by rw [hcs]; exact List.mem_append_left _ (moved_sub.subset hd)
  have wb : Wf ms (movedOf ms pre ++ [c]) := w.toWf.sub (by
    rw [hcs]
    refine (moved_sub.append (List.singleton_sublist.mpr List.mem_cons_self)))
  -- c can't be placed besides those moved before it
  have hl : ∃ T : Nat → Bool, c.takers.all T = true ∧ roomT ms T ≤ keptT (movedOf ms pre) T := by
    refine Classical.byContradiction fun hne => hn ?_
    have hf : Fits ms (movedOf ms pre) c := fun T hT => Nat.lt_of_not_le fun z => hne ⟨T, hT, z⟩
    rw [movedOf_eq w.toWf goC_ok, hcs, greedy_append]
    have e1 : greedyB (goC ms) [] pre = movedOf ms pre := (movedOf_eq wp goC_ok).symm
    rw [e1]
    have hg : goC ms (movedOf ms pre) c = true := ((goC_ok (ms := ms) (cs := cs)) _ c hbs hc).mpr hf
    show c ∈ (if goC ms (movedOf ms pre) c = true then greedyB (goC ms) (movedOf ms pre ++ [c]) post else greedyB (goC ms) (movedOf ms pre) post)
    rw [if_pos hg]
    obtain ⟨e, he, _⟩ := greedy_ext (go := goC ms) post (movedOf ms pre ++ [c])
    rw [he]; simp
  obtain ⟨R, e, nd, hs', h1, h2, h3⟩ := why_least wb (fun T => moved_hall wp T) hl
  have hs : ∀ k ∈ R, k ∈ keysM ms := hs'
  rw [hb]
  have hX : setN (keysM ms) R < 2 ^ ms.length := by rw [← klen]; exact setN_lt nd hs
  have hall : c.takers.all (TX (keysM ms) (setN (keysM ms) R)) = c.takers.all fun k => decide (k ∈ R) := by
    rw [Bool.eq_iff_iff, List.all_eq_true, List.all_eq_true]
    exact ⟨fun z t ht => by rw [← TX_set nd hs (w.tk c hc t ht)]; exact z t ht, fun z t ht => by rw [TX_set nd hs (w.tk c hc t ht)]; exact z t ht⟩
  have h0 : setN (keysM ms) R ∈ proofsOf ms (setN (keysM ms) c.takers) ((movedOf ms pre).map fun d => setN (keysM ms) d.takers) := by
    refine List.mem_filter.mpr ⟨List.mem_range.mpr (by rw [rooms_len w.nk]; exact hX), ?_⟩
    rw [isProof_iff w hbs hc hX, hall, set_fit w hbs nd hs, set_room nd hs]
    exact ⟨h1, h2⟩
  have hlq : leastOf (proofsOf ms (setN (keysM ms) c.takers) ((movedOf ms pre).map fun d => setN (keysM ms) d.takers)) = setN (keysM ms) R := leastOf_eq h0 fun X hX => by
    obtain ⟨a, b⟩ := List.mem_filter.mp hX
    have a : X < 2 ^ ms.length := by rw [← rooms_len w.nk]; exact List.mem_range.mp a
    obtain ⟨b1, b2⟩ := (isProof_iff w hbs hc a).mp b
    rw [isW_set nd hs]
    exact List.all_eq_true.mpr (h3 (TX (keysM ms) X) b1 b2)
  refine ⟨?_, List.length_pos_of_mem h0⟩
  rw [hlq, keysOf_eq hk nd hs]
  unfold whySet
  rw [hb]
  exact e.symm
end
end Cm
namespace Cm
open Vbchaj
abbrev ckeys (cs : List Client) : List Nat := cs.map fun c => c.key
/-! ### the order of clients -/
theorem sooner_iff (a b : Client) : sooner a b = true ↔ a.order < b.order ∨ (a.order = b.order ∧ a.key < b.key) := by
  unfold sooner
  rw [Bool.or_eq_true, Bool.and_eq_true, decide_eq_true_iff, decide_eq_true_iff, beq_iff_eq]
theorem sooner_trans {a b c : Client} (h : sooner a b = true) (h' : sooner b c = true) : sooner a c = true := by
  rw [sooner_iff] at *; omega
theorem sooner_or {a b : Client} (h : a.key ≠ b.key) (h' : ¬ sooner a b = true) : sooner b a = true := by
  rw [sooner_iff] at *; omega
theorem sooner_not {a b : Client} (h : sooner a b = true) : sooner b a = false := by
  rw [Bool.eq_false_iff]; intro q; rw [sooner_iff] at *; omega
theorem sooner_self (a : Client) : sooner a a = false := by
  rw [Bool.eq_false_iff]; intro q; rw [sooner_iff] at *; omega
/-! ### what holds of every state -/
structure Inv (s : State) : Prop where
  lt : (keysM s.members).Pairwise (· < ·)
  few : s.members.length ≤ 8
  pos : ∀ m ∈ s.members, m.key ≠ 0
  so : s.clients.Pairwise fun a b => sooner a b = true
  ck : (ckeys s.clients).Nodup
  tk : ∀ c ∈ s.clients, ∀ t ∈ c.takers, t ∈ keysM s.members
  tn : ∀ c ∈ s.clients, c.takers.Nodup
  cf : s.clients.length ≤ 16
theorem Inv.wn {s : State} (h : Inv s) : Wn s.members s.clients := ⟨⟨lt_nodup h.lt, h.ck, h.pos, h.tk⟩, h.tn⟩
theorem inv_start : Inv start := ⟨.nil, by decide, fun _ h => (nomatch h), .nil, .nil, fun _ h => (nomatch h), fun _ h => (nomatch h), by decide⟩
theorem find_key {α : Type} (f : α → Nat) : ∀ {l : List α} {x : α}, (l.map f).Nodup → x ∈ l → l.find? (fun y => f y == f x) = some x
  | y :: l, x, nd, h => by
    rw [List.find?_cons]
    by_cases e : f y = f x
    · rw [show (f y == f x) = true from beq_iff_eq.mpr e]
      rcases List.mem_cons.mp h with rfl | h
      · rfl
      · exact absurd (List.mem_map.mpr ⟨x, h, e.symm⟩) (List.nodup_cons.mp nd).1
    · rw [show (f y == f x) = false from beq_eq_false_iff_ne.mpr e]
      rcases List.mem_cons.mp h with rfl | h
      · exact absurd rfl e
      · exact find_key f (List.nodup_cons.mp nd).2 h
theorem find_none {α : Type} (f : α → Nat) {l : List α} {k : Nat} (h : k ∉ l.map f) : l.find? (fun y => f y == k) = none := by
  rw [List.find?_eq_none]
  intro y hy e
  exact h (List.mem_map.mpr ⟨y, hy, beq_iff_eq.mp e⟩)
theorem find_get {α : Type} (f : α → Nat) {l : List α} {k : Nat} {x : α} (h : l.find? (fun y => f y == k) = some x) : x ∈ l ∧ f x = k := ⟨List.mem_of_find?_eq_some h, by have := List.find?_some h; exact beq_iff_eq.mp this⟩
theorem memberAt_iff (s : State) (k : Nat) : (memberAt s k).isSome = decide (k ∈ keysM s.members) := by
  by_cases h : k ∈ keysM s.members
  · obtain ⟨m, hm, e⟩ := List.mem_map.mp h
    rw [decide_eq_true h]
    unfold memberAt
    rw [List.find?_isSome]
    exact ⟨m, hm, beq_iff_eq.mpr e⟩
  · rw [decide_eq_false h]
    unfold memberAt
    rw [find_none (fun m : Member => m.key) h]; rfl
theorem key_injF {α : Type} (f : α → Nat) {l : List α} {x y : α} (nd : (l.map f).Nodup) (hx : x ∈ l) (hy : y ∈ l) (e : f x = f y) : x = y := by
  have h1 := find_key f nd hx
  have h2 := find_key f nd hy
  rw [← e, h1] at h2
  exact Option.some.inj h2
/-! ### where they go -/
def gl (ms : List Member) (cs : List Client) : List Nat := goalsOf (keysM ms) (allSl (keysM ms) (roomSl ms) (movedOf ms cs)) (movedOf ms cs)
theorem gl_len (ms : List Member) (cs : List Client) : (gl ms cs).length = (movedOf ms cs).length := goals_len _ _ _
section
variable {ms : List Member} {cs : List Client}
theorem gl_ok (w : Wn ms cs) : GoalsOk (keysM ms) (allSl (keysM ms) (roomSl ms) (movedOf ms cs)) (movedOf ms cs) := by
  rw [allSl_is w fun d hd => moved_sub.subset hd]
  exact (goals_eq (movedOf ms cs) ms (w.sub moved_sub) fun T => moved_hall w.toWf T).1
theorem told_eq (w : Wn ms cs) : told ms cs = ((movedOf ms cs).zip (gl ms cs)).map fun x => (x.1.key, x.2) := by
  unfold told gl
  rw [allSl_is w fun d hd => moved_sub.subset hd]
  exact (goals_eq (movedOf ms cs) ms (w.sub moved_sub) fun T => moved_hall w.toWf T).2
theorem told_len (w : Wn ms cs) : (told ms cs).length = (movedOf ms cs).length := by
  rw [told_eq w, List.length_map, List.length_zip, gl_len]; omega
theorem told_fst (w : Wn ms cs) : (told ms cs).map (fun x => x.1) = ckeys (movedOf ms cs) := by
  rw [told_eq w, List.map_map]
  have : (fun x : Nat × Nat => x.1) ∘ (fun x : Client × Nat => (x.1.key, x.2)) = (fun c : Client => c.key) ∘ Prod.fst := rfl
  rw [this, ← List.map_map, List.map_fst_zip (by rw [gl_len]; exact Nat.le_refl _)]
theorem told_snd (w : Wn ms cs) : (told ms cs).map (fun x => x.2) = gl ms cs := by
  rw [told_eq w, List.map_map]
  have : (fun x : Nat × Nat => x.2) ∘ (fun x : Client × Nat => (x.1.key, x.2)) = Prod.snd := rfl
  rw [this, List.map_snd_zip (by rw [gl_len]; exact Nat.le_refl _)]
end
def PosOk : List Member → List Nat → Prop
  | _, [] => True
  | ms, g :: l => 0 < roomOf ms g ∧ PosOk (Vbchaj.without ms g) l
theorem first_pos : ∀ (cs : List Client) (ms : List Member), PosOk ms ((firstPlaces ms cs).map fun x => x.2)
  | [], _ => trivial
  | c :: l, ms => by
    unfold firstPlaces
    split
    · rename_i m hm
      have := List.find?_some hm
      rw [Bool.and_eq_true, decide_eq_true_iff] at this
      exact ⟨this.1, first_pos l _⟩
    · exact first_pos l ms
theorem pos_key : ∀ (gs : List Nat) (ms : List Member), PosOk ms gs → ∀ g ∈ gs, g ∈ keysM ms
  | g :: l, ms, h, x, hx => by
    rcases List.mem_cons.mp hx with rfl | hx
    · exact roomOf_pos_mem h.1
    · have := pos_key l _ h.2 x hx
      rwa [keysM_without] at this
def lessBy (ms : List Member) (gs : List Nat) : List Member := ms.map fun m => { m with room := m.room - gs.count m.key }
theorem less_nil (ms : List Member) : lessBy ms [] = ms := by
  unfold lessBy
  conv => rhs; rw [← List.map_id ms]
  exact List.map_congr_left fun m _ => rfl
theorem less_snoc (ms : List Member) (gs : List Nat) (g : Nat) : lessBy ms (gs ++ [g]) = Vbchaj.without (lessBy ms gs) g := by
  unfold lessBy Vbchaj.without
  rw [List.map_map]
  refine List.map_congr_left fun m _ => ?_
  show (⟨m.key, m.room - (gs ++ [g]).count m.key⟩ : Member) = if m.key = g then ⟨m.key, m.room - gs.count m.key - 1⟩ else ⟨m.key, m.room - gs.count m.key⟩
  rw [List.count_append]
  by_cases e : m.key = g
  · rw [if_pos e, e, List.count_cons_self, List.count_nil, Nat.sub_sub]
  · rw [if_neg e, List.count_cons_of_ne (fun q => e q.symm), List.count_nil, Nat.add_zero]
theorem pos_take : ∀ (gs : List Nat) (ms : List Member), PosOk ms gs → ∀ i, (h : i < gs.length) → 0 < roomOf ((gs.take i).foldl Vbchaj.without ms) gs[i]
  | g :: l, ms, h, 0, _ => h.1
  | g :: l, ms, h, i + 1, hi => pos_take l _ h.2 i (Nat.lt_of_succ_lt_succ hi)
theorem less_fold (ms : List Member) : ∀ (n : Nat) (gs : List Nat), gs.length = n → gs.foldl Vbchaj.without ms = lessBy ms gs
  | 0, gs, h => by rw [List.eq_nil_of_length_eq_zero h, less_nil]; rfl
  | n + 1, gs, h => by
    rcases List.eq_nil_or_concat gs with rfl | ⟨l, g, rfl⟩
    · exact absurd h (by simp)
    · rw [List.concat_eq_append] at h ⊢
      rw [List.foldl_append, less_snoc, less_fold ms n l (by simpa using h)]; rfl
theorem keysM_less (ms : List Member) (gs : List Nat) : keysM (lessBy ms gs) = keysM ms := by
  unfold lessBy keysM
  rw [List.map_map]; rfl
theorem taken_count (p : Places) (m : Nat) : takenAt p m = (p.map fun x => x.2).count m := by
  unfold takenAt List.count
  rw [List.countP_map, List.countP_eq_length_filter]; rfl
section
variable {s : State}
theorem told_pos (h : Inv s) : PosOk s.members (gl s.members s.clients) := by
  rw [← told_snd h.wn]; exact first_pos _ _
theorem move_members (h : Inv s) : (s.members.map fun m => ({ m with room := m.room - takenAt (told s.members s.clients) m.key } : Member)) = lessBy s.members (gl s.members s.clients) := by
  unfold lessBy
  refine List.map_congr_left fun m _ => ?_
  rw [taken_count, told_snd h.wn]
theorem place_told (h : Inv s) (k : Nat) : placeOf (told s.members s.clients) k = ((((movedOf s.members s.clients).zip (gl s.members s.clients)).find? fun x => x.1.key == k).map Prod.snd).getD 0 := by
  unfold placeOf
  rw [told_eq h.wn, List.find?_map]
  rw [show ((fun x : Nat × Nat => x.1 == k) ∘ fun x : Client × Nat => (x.1.key, x.2)) = fun x : Client × Nat => x.1.key == k from rfl]
  cases List.find? (fun x : Client × Nat => x.1.key == k) ((movedOf s.members s.clients).zip (gl s.members s.clients)) <;> rfl
theorem place_zero (h : Inv s) (k : Nat) : (placeOf (told s.members s.clients) k == 0) = !decide (k ∈ ckeys (movedOf s.members s.clients)) := by
  by_cases hk : k ∈ ckeys (movedOf s.members s.clients)
  · rw [decide_eq_true hk]
    show _ = false
    rw [beq_eq_false_iff_ne]
    rw [← told_fst h.wn] at hk
    obtain ⟨x, hx, e⟩ := List.mem_map.mp hk
    unfold placeOf
    cases q : (told s.members s.clients).find? fun x => x.1 == k with
    | none =>
      have := List.find?_eq_none.mp q x hx
      exact absurd (beq_iff_eq.mpr e) this
    | some y =>
      have hy := List.mem_of_find?_eq_some q
      have hg : y.2 ∈ gl s.members s.clients := by rw [← told_snd h.wn]; exact List.mem_map.mpr ⟨y, hy, rfl⟩
      obtain ⟨m, hm, e⟩ := List.mem_map.mp (pos_key _ _ (told_pos h) _ hg)
      show y.2 ≠ 0
      rw [← e]; exact h.pos m hm
  · rw [decide_eq_false hk]
    show _ = true
    rw [← told_fst h.wn] at hk
    unfold placeOf
    rw [find_none (fun x : Nat × Nat => x.1) hk]; rfl
theorem isMoved_iff (s : State) (c : Client) : isMoved s c = decide (c.key ∈ ckeys (movedOf s.members s.clients)) := by
  rw [Bool.eq_iff_iff, decide_eq_true_iff]
  unfold isMoved
  rw [List.any_eq_true]
  constructor
  · rintro ⟨x, hx, e⟩; exact List.mem_map.mpr ⟨x, hx, beq_iff_eq.mp e⟩
  · intro h; obtain ⟨x, hx, e⟩ := List.mem_map.mp h; exact ⟨x, hx, beq_iff_eq.mpr e⟩
theorem keys_filter (p : Nat → Bool) (l : List Client) : (ckeys l).filter p = ckeys (l.filter fun c => p c.key) := by
  unfold ckeys
  rw [List.filter_map]; rfl
theorem new_in (a b : List Client) : newIn a b = ckeys (a.filter fun c => !decide (c.key ∈ ckeys b)) := by
  unfold newIn
  show ((ckeys a).filter fun k => !(ckeys b).contains k) = _
  rw [keys_filter]
  refine congrArg ckeys (List.filter_congr fun c _ => ?_)
  rw [List.contains_eq_mem]
theorem left_eq (s : State) : ((Vbchaj.keysOf s.clients).filter fun k => !(Vbchaj.keysOf (movedOf s.members s.clients)).contains k) = ckeys (s.clients.filter fun c => !decide (c.key ∈ ckeys (movedOf s.members s.clients))) := new_in _ _
/-! ### clients before -/
theorem before_pre (h : Inv s) {c : Client} (hc : c ∈ s.clients) : ∃ pre post, s.clients = pre ++ c :: post ∧ beforeOf s.clients c = pre := by
  obtain ⟨pre, post, e⟩ := List.append_of_mem hc
  refine ⟨pre, post, e, ?_⟩
  have so := h.so
  rw [e] at so
  obtain ⟨h1, h2, h3⟩ := List.pairwise_append.mp so
  unfold beforeOf
  rw [e, List.filter_append, List.filter_cons]
  rw [if_neg (by rw [sooner_self]; decide)]
  rw [List.filter_eq_self.mpr fun x hx => h3 x hx c List.mem_cons_self, List.filter_eq_nil_iff.mpr fun x hx => ?_, List.append_nil]
  rw [sooner_not ((List.pairwise_cons.mp h2).1 x hx)]; decide
theorem take_pre {pre post : List Client} {c : Client} (nd : (ckeys (pre ++ c :: post)).Nodup) : (pre ++ c :: post).take ((ckeys (pre ++ c :: post)).idxOf c.key) = pre := by
  have e : ckeys (pre ++ c :: post) = ckeys pre ++ c.key :: ckeys post := by unfold ckeys; rw [List.map_append]; rfl
  rw [e] at nd ⊢
  have hn : c.key ∉ ckeys pre := fun q => (List.nodup_append.mp nd).2.2 c.key q c.key List.mem_cons_self rfl
  rw [List.idxOf_append, if_neg hn, List.idxOf_cons_self, Nat.zero_add]
  have : (ckeys pre).length = pre.length := List.length_map ..
  rw [this, List.take_left']
  rfl
theorem moved_pre (w : Wn ms (pre ++ post)) : movedOf ms pre = (movedOf ms (pre ++ post)).filter fun y => decide (y.key ∈ ckeys pre) := by
  have wp : Wf ms pre := w.toWf.sub (List.sublist_append_left ..)
  rw [movedOf_eq w.toWf goC_ok, greedy_append, movedOf_eq wp goC_ok]
  obtain ⟨e0, h0, s0⟩ := greedy_ext (go := goC ms) pre []
  obtain ⟨e, h1, s1⟩ := greedy_ext (go := goC ms) post (greedyB (goC ms) [] pre)
  rw [h1, List.filter_append, List.filter_eq_self.mpr, List.filter_eq_nil_iff.mpr, List.append_nil]
  · intro x hx q
    have q := of_decide_eq_true q
    have nd := w.ck
    rw [List.map_append] at nd
    exact (List.nodup_append.mp nd).2.2 _ q _ (List.mem_map.mpr ⟨x, s1.subset hx, rfl⟩) rfl
  · intro x hx
    rw [h0] at hx
    exact decide_eq_true (List.mem_map.mpr ⟨x, s0.subset hx, rfl⟩)
end
end Cm
namespace Cm
open Vbchaj
section
variable {s : State} {ms : List Member} {cs : List Client}
theorem split_perm : ∀ {l : List Client} {c : Client}, (ckeys l).Nodup → c ∈ l → l.Perm (c :: l.filter fun x => x.key != c.key)
  | x :: l, c, nd, h => by
    obtain ⟨n1, n2⟩ := List.nodup_cons.mp nd
    rcases List.mem_cons.mp h with rfl | h
    · rw [List.filter_cons_of_neg (by simp), List.filter_eq_self.mpr]
      intro y hy
      rw [bne_iff_ne]
      intro e
      exact n1 (List.mem_map.mpr ⟨y, hy, e⟩)
    · have hne : x.key ≠ c.key := fun e => n1 (List.mem_map.mpr ⟨c, h, e.symm⟩)
      rw [List.filter_cons_of_pos (by simpa using hne)]
      exact ((split_perm n2 h).cons x).trans (List.Perm.swap ..)
theorem keptT_perm {l m : List Client} (p : l.Perm m) (T : Nat → Bool) : keptT l T = keptT m T := p.countP_eq _
theorem Wn.perm {l : List Client} (w : Wn ms cs) (p : l.Perm cs) : Wn ms l := ⟨⟨w.nk, (p.map _).nodup_iff.mpr w.ck, w.pos, fun c hc => w.tk c (p.mem_iff.mp hc)⟩, fun c hc => w.tn c (p.mem_iff.mp hc)⟩
theorem may_eq (h : Inv s) {c : Client} (hc : c ∈ s.clients) (hm : c.key ∈ ckeys (movedOf s.members s.clients)) (m : Nat) :
    mayBe s c m = (decide (m ∈ c.takers) && isFreeB (allSl (keysM s.members) (roomSl s.members) (movedOf s.members s.clients)) (setN (keysM s.members) c.takers) (2 ^ (keysM s.members).idxOf m)) := by
  have w := h.wn
  have hcm : c ∈ movedOf s.members s.clients := by
    obtain ⟨d, hd, e⟩ := List.mem_map.mp hm
    have := key_injF (fun c : Client => c.key) h.ck (moved_sub.subset hd) hc e
    rwa [← this]
  have wm : Wn s.members (movedOf s.members s.clients) := w.sub moved_sub
  have p := split_perm wm.ck hcm
  unfold mayBe
  rw [isMoved_iff, decide_eq_true hm, Bool.true_and, List.contains_eq_mem]
  by_cases ht : m ∈ c.takers
  · rw [decide_eq_true ht, Bool.true_and, Bool.true_and, Bool.eq_iff_iff, allSl_is w fun d hd => moved_sub.subset hd, isFree_iff w (fun d hd => moved_sub.subset hd) hc ht]
    exact free_iff (wm.perm p.symm).toWf (keptT_perm p) (moved_hall w.toWf) ht
  · rw [decide_eq_false ht]; rfl
theorem why_of (h : Inv s) {c : Client} (hc : c ∈ s.clients) (hn : isMoved s c = false) :
    keysOf (keysM s.members) (leastOf (proofsOf s.members (setN (keysM s.members) c.takers) ((movedOf s.members (beforeOf s.clients c)).map fun d => setN (keysM s.members) d.takers))) = whySet s.members s.clients c ∧
    0 < (proofsOf s.members (setN (keysM s.members) c.takers) ((movedOf s.members (beforeOf s.clients c)).map fun d => setN (keysM s.members) d.takers)).length := by
  obtain ⟨pre, post, e, hb⟩ := before_pre h hc
  rw [isMoved_iff] at hn
  exact why_eq h.wn h.lt e hb fun q => of_decide_eq_false hn (List.mem_map.mpr ⟨c, q, rfl⟩)
theorem before_take (h : Inv s) {c : Client} (hc : c ∈ s.clients) : s.clients.take ((ckeys s.clients).idxOf c.key) = beforeOf s.clients c := by
  obtain ⟨pre, post, e, hb⟩ := before_pre h hc
  rw [hb]
  have := h.ck
  rw [e] at this ⊢
  exact take_pre this
theorem before_moved (h : Inv s) {c : Client} (hc : c ∈ s.clients) : (movedOf s.members s.clients).filter (fun y => decide (y.key ∈ ckeys (beforeOf s.clients c))) = movedOf s.members (beforeOf s.clients c) := by
  obtain ⟨pre, post, e, hb⟩ := before_pre h hc
  rw [hb, e]
  exact (moved_pre (ms := s.members) (pre := pre) (post := c :: post) (by rw [← e]; exact h.wn)).symm
/-! ### plans -/
theorem nodup_count {l : List Nat} (nd : l.Nodup) (x : Nat) : l.count x ≤ 1 := List.nodup_iff_count.mp nd x
end
end Cm
namespace Cm
open Vbchaj
section
variable {s : State}
theorem putMember_perm (m : Member) : ∀ l : List Member, (putMember m l).Perm (m :: l)
  | [] => List.Perm.refl _
  | x :: l => by
    unfold putMember
    split
    · exact List.Perm.refl _
    · exact ((putMember_perm m l).cons x).trans (List.Perm.swap ..)
theorem putMember_lt (m : Member) : ∀ l : List Member, (keysM l).Pairwise (· < ·) → m.key ∉ keysM l → (keysM (putMember m l)).Pairwise (· < ·)
  | [], _, _ => List.pairwise_singleton ..
  | x :: l, h, hm => by
    obtain ⟨h1, h2⟩ := List.pairwise_cons.mp h
    have hx : m.key ≠ x.key := fun e => hm (e ▸ List.mem_cons_self)
    have hl : m.key ∉ keysM l := fun q => hm (List.mem_cons_of_mem _ q)
    unfold putMember
    split
    · rename_i hlt
      refine List.pairwise_cons.mpr ⟨fun k hk => ?_, h⟩
      rcases List.mem_cons.mp hk with rfl | hk
      · exact hlt
      · exact Nat.lt_trans hlt (h1 k hk)
    · rename_i hlt
      refine List.pairwise_cons.mpr ⟨fun k hk => ?_, putMember_lt m l h2 hl⟩
      have : k ∈ keysM (m :: l) := ((putMember_perm m l).map _).mem_iff.mp hk
      rcases List.mem_cons.mp this with rfl | hk
      · show x.key < m.key
        omega
      · exact h1 k hk
theorem putClient_perm (c : Client) : ∀ l : List Client, (putClient c l).Perm (c :: l)
  | [] => List.Perm.refl _
  | x :: l => by
    unfold putClient
    split
    · exact List.Perm.refl _
    · exact ((putClient_perm c l).cons x).trans (List.Perm.swap ..)
theorem putClient_so (c : Client) : ∀ l : List Client, (l.Pairwise fun a b => sooner a b = true) → c.key ∉ ckeys l → (putClient c l).Pairwise fun a b => sooner a b = true
  | [], _, _ => List.pairwise_singleton ..
  | x :: l, h, hm => by
    obtain ⟨h1, h2⟩ := List.pairwise_cons.mp h
    have hx : c.key ≠ x.key := fun e => hm (e ▸ List.mem_cons_self)
    have hl : c.key ∉ ckeys l := fun q => hm (List.mem_cons_of_mem _ q)
    unfold putClient
    split
    · rename_i hlt
      refine List.pairwise_cons.mpr ⟨fun k hk => ?_, h⟩
      rcases List.mem_cons.mp hk with rfl | hk
      · exact hlt
      · exact sooner_trans hlt (h1 k hk)
    · rename_i hlt
      refine List.pairwise_cons.mpr ⟨fun k hk => ?_, putClient_so c l h2 hl⟩
      rcases List.mem_cons.mp ((putClient_perm c l).mem_iff.mp hk) with rfl | hk
      · exact sooner_or hx hlt
      · exact h1 k hk
theorem inv_member (h : Inv s) {m : Member} (hk : m.key ∉ keysM s.members) (h0 : m.key ≠ 0) (hl : s.members.length < 8) : Inv { s with members := putMember m s.members } := by
  have p := putMember_perm m s.members
  refine ⟨putMember_lt m _ h.lt hk, ?_, fun x hx => ?_, h.so, h.ck, fun c hc t ht => ?_, h.tn, h.cf⟩
  · show (putMember m s.members).length ≤ 8
    rw [p.length_eq, List.length_cons]; omega
  · rcases List.mem_cons.mp (p.mem_iff.mp hx) with rfl | hx
    · exact h0
    · exact h.pos x hx
  · exact (p.map _).mem_iff.mpr (List.mem_cons_of_mem _ (h.tk c hc t ht))
theorem inv_client (h : Inv s) {c : Client} (hk : c.key ∉ ckeys s.clients) (tk : ∀ t ∈ c.takers, t ∈ keysM s.members) (tn : c.takers.Nodup) (hl : s.clients.length < 16) : Inv { s with clients := putClient c s.clients } := by
  have p := putClient_perm c s.clients
  refine ⟨h.lt, h.few, h.pos, putClient_so c _ h.so hk, ?_, fun x hx => ?_, fun x hx => ?_, ?_⟩
  · exact (p.map _).nodup_iff.mpr (List.nodup_cons.mpr ⟨hk, h.ck⟩)
  · rcases List.mem_cons.mp (p.mem_iff.mp hx) with rfl | hx
    · exact tk
    · exact h.tk x hx
  · rcases List.mem_cons.mp (p.mem_iff.mp hx) with rfl | hx
    · exact tn
    · exact h.tn x hx
  · show (putClient c s.clients).length ≤ 16
    rw [p.length_eq, List.length_cons]; omega
theorem keysM_filter (l : List Member) (k : Nat) : keysM (l.filter fun x => x.key != k) = (keysM l).filter fun j => j != k := by
  unfold keysM
  rw [List.filter_map]; rfl
theorem inv_gone (h : Inv s) {k : Nat} (hn : (s.clients.any fun c => c.takers.contains k) = false) : Inv { s with members := s.members.filter fun x => x.key != k } := by
  refine ⟨?_, Nat.le_trans (List.length_filter_le _ _) h.few, fun x hx => h.pos x (List.mem_filter.mp hx).1, h.so, h.ck, fun c hc t ht => ?_, h.tn, h.cf⟩
  · show (keysM _).Pairwise _
    rw [keysM_filter]
    exact h.lt.sublist List.filter_sublist
  · show t ∈ keysM _
    rw [keysM_filter]
    refine List.mem_filter.mpr ⟨h.tk c hc t ht, bne_iff_ne.mpr fun e => ?_⟩
    subst e
    have := List.any_eq_false.mp hn c hc
    rw [List.contains_eq_mem] at this
    exact this (decide_eq_true ht)
theorem inv_sub (h : Inv s) {l : List Client} (hs : l.Sublist s.clients) : Inv { s with clients := l } :=
  ⟨h.lt, h.few, h.pos, h.so.sublist hs, h.ck.sublist (hs.map _), fun c hc => h.tk c (hs.subset hc), fun c hc => h.tn c (hs.subset hc), Nat.le_trans hs.length_le h.cf⟩
theorem inv_rooms (h : Inv s) {ms : List Member} (e : keysM ms = keysM s.members) : Inv { s with members := ms } := by
  have hl : ms.length = s.members.length := by rw [← klen (ms := ms), e, klen]
  refine ⟨by show (keysM ms).Pairwise _; rw [e]; exact h.lt, by show ms.length ≤ 8; rw [hl]; exact h.few, fun x hx => ?_, h.so, h.ck, fun c hc t ht => by show t ∈ keysM ms; rw [e]; exact h.tk c hc t ht, h.tn, h.cf⟩
  have : x.key ∈ keysM s.members := by rw [← e]; exact List.mem_map.mpr ⟨x, hx, rfl⟩
  obtain ⟨y, hy, e'⟩ := List.mem_map.mp this
  rw [← e']; exact h.pos y hy
/-- a client changed where it stands -/
def change (c d : Client) (l : List Client) : List Client := l.map fun x => if x.key = c.key then d else x
theorem change_perm {c d : Client} : ∀ {l : List Client}, (ckeys l).Nodup → c ∈ l → (change c d l).Perm (d :: l.filter fun x => x.key != c.key)
  | x :: l, nd, h => by
    obtain ⟨n1, n2⟩ := List.nodup_cons.mp nd
    unfold change
    rw [List.map_cons]
    rcases List.mem_cons.mp h with rfl | h
    · rw [if_pos rfl, List.filter_cons_of_neg (by simp), List.filter_eq_self.mpr]
      · refine List.Perm.cons d ?_
        have : l.map (fun x => if x.key = c.key then d else x) = l := by
          conv => rhs; rw [← List.map_id l]
          refine List.map_congr_left fun y hy => ?_
          rw [if_neg fun e => n1 (List.mem_map.mpr ⟨y, hy, e⟩)]; rfl
        rw [this]
      · intro y hy
        rw [bne_iff_ne]
        exact fun e => n1 (List.mem_map.mpr ⟨y, hy, e⟩)
    · have hne : x.key ≠ c.key := fun e => n1 (List.mem_map.mpr ⟨c, h, e.symm⟩)
      rw [if_neg hne, List.filter_cons_of_pos (by simpa using hne)]
      exact ((change_perm n2 h).cons x).trans (List.Perm.swap ..)
theorem ckeys_change {c d : Client} (e : d.key = c.key) (l : List Client) : ckeys (change c d l) = ckeys l := by
  unfold ckeys change
  rw [List.map_map]
  refine List.map_congr_left fun x _ => ?_
  show (if x.key = c.key then d else x : Client).key = x.key
  split
  · rename_i h; rw [e, h]
  · rfl
theorem inv_order (h : Inv s) {c : Client} (hc : c ∈ s.clients) (o : Nat) : Inv { s with clients := putClient { c with order := o } (s.clients.filter fun x => x.key != c.key) } := by
  have h1 := inv_sub h (l := s.clients.filter fun x => x.key != c.key) List.filter_sublist
  have p := split_perm h.ck hc
  have hlen := p.length_eq
  rw [List.length_cons] at hlen
  refine inv_client (s := { s with clients := s.clients.filter fun x => x.key != c.key }) h1 (c := { c with order := o }) ?_ (h.tk c hc) (h.tn c hc) ?_
  · intro q
    obtain ⟨x, hx, e⟩ := List.mem_map.mp q
    exact bne_iff_ne.mp (List.mem_filter.mp hx).2 e
  · show (s.clients.filter fun x => x.key != c.key).length < 16
    have := h.cf
    omega
theorem inv_takers (h : Inv s) {c : Client} {l : List Nat} (tk : ∀ t ∈ l, t ∈ keysM s.members) (tn : l.Nodup) : Inv { s with clients := s.clients.map fun x => if x.key = c.key then { x with takers := l } else x } := by
  have key : ∀ x : Client, (if x.key = c.key then { x with takers := l } else x : Client).key = x.key ∧ (if x.key = c.key then { x with takers := l } else x : Client).order = x.order := fun x => by split <;> exact ⟨rfl, rfl⟩
  refine ⟨h.lt, h.few, h.pos, ?_, ?_, fun x hx => ?_, fun x hx => ?_, ?_⟩
  · show List.Pairwise _ (s.clients.map _)
    rw [List.pairwise_map]
    refine h.so.imp fun {a b} hab => ?_
    rw [sooner_iff] at hab ⊢
    rw [(key a).1, (key a).2, (key b).1, (key b).2]
    exact hab
  · show (ckeys (s.clients.map _)).Nodup
    have : ckeys (s.clients.map fun x => if x.key = c.key then { x with takers := l } else x) = ckeys s.clients := by
      unfold ckeys
      rw [List.map_map]
      exact List.map_congr_left fun x _ => (key x).1
    rw [this]; exact h.ck
  · obtain ⟨y, hy, rfl⟩ := List.mem_map.mp hx
    show ∀ t ∈ (if y.key = c.key then { y with takers := l } else y : Client).takers, _
    split
    · exact tk
    · exact h.tk y hy
  · obtain ⟨y, hy, rfl⟩ := List.mem_map.mp hx
    show (if y.key = c.key then { y with takers := l } else y : Client).takers.Nodup
    split
    · exact tn
    · exact h.tn y hy
  · show (s.clients.map _).length ≤ 16
    rw [List.length_map]; exact h.cf
end
end Cm
namespace Cw
open PySem PySem.Spec PyProof.Rows L2 Evl
open Cm (keysM setN isW hasB roomSl goesIn keptToo isFreeB withoutPlace movedBy allSl freeOf goalsOf GoalsOk keysOf leastOf isProof proofsOf boundsOf coversOf)
abbrev Mem := Vbchaj.Member
abbrev Cli := Vbchaj.Client

/-! ### the text -/
def top (i : Nat) : Stmt := PySem.Challenge.pw_clientmoves_s01_answers.main.body.getD i (.Pass ⟨0, 0, 0, 0⟩)

/-! ### defs and calls -/
structure Dfn (K : PySem.W.Frag) (mg : Str → Option Value) (x : Str) (st : Stmt) (ps : List Str) : Prop where
  ex : ∃ (f : Addr) (fd : FuncData), Fun K x x st f fd ∧ mg x = some (.ref f) ∧ Binds K fd ps []
structure Cal (P : Program) (w : World) (K : PySem.W.Frag) (mg : Str → Option Value) (base : Heap) (k : Nat) (x : Str) (sp : Sp) : Prop where
  ex : ∃ (f : Addr) (fd : FuncData) (ps : List Str), FnOk P w K mg base CX0 k f fd ps sp ∧ mg x = some (.ref f) ∧ PySem.W.keepIn K (.ref f) = true ∧ Binds K fd ps []
structure CalX (P : Program) (w : World) (K : PySem.W.Frag) (mg : Str → Option Value) (base : Heap) (k : Nat) (x : Str) (sp : Sp) : Prop where
  ex : ∃ (f : Addr) (fd : FuncData) (ps : List Str), FnOk P w K mg base (L2.CX P w) k f fd ps sp ∧ mg x = some (.ref f) ∧ PySem.W.keepIn K (.ref f) = true ∧ Binds K fd ps []
section
variable {P : Program} {w : World} {K : PySem.W.Frag} {mg : Str → Option Value} {base : Heap} {x : Str} {st : Stmt} {N ps : List Str} {k : Nat} {sp : Sp}
theorem cal_of (D : Dfn K mg x st ps) (S : FnScope N ps (defScope st)) (len : ∀ vs H Q E, sp vs H Q E → vs.length = ps.length)
    (hbody : ∀ (f : Addr) (cdv : Value) (A : Around) (outer : List Env) (s : Shared) (H : Hp) (vs : List V) (Q : VK) (E : XK), Room k (A.deeper (envOfC x (defScope st) s.heap.objs.size f cdv)) → sp vs H Q E →
      ∃ t, PSs (cxOf CX0 P w K mg base N x (defScope st) f cdv A outer s H E).nox (defBody st) t ∧ t { nx := fun _ H' => Q .non H', rt := Q } (start N vs) H) : Cal P w K mg base (k + 1) x sp := by
  obtain ⟨f, fd, F, g, b⟩ := D.ex
  exact ⟨f, fd, ps, F.ok S len (hbody f), g, F.kp, b⟩
theorem calX_of (D : Dfn K mg x st ps) (S : FnScope N ps (defScope st)) (len : ∀ vs H Q E, sp vs H Q E → vs.length = ps.length)
    (hbody : ∀ (f : Addr) (cdv : Value) (A : Around) (outer : List Env) (s : Shared) (H : Hp) (vs : List V) (Q : VK) (E : XK), Room k (A.deeper (envOfC x (defScope st) s.heap.objs.size f cdv)) → sp vs H Q E →
      ∃ t, PSs (cxOf (L2.CX P w) P w K mg base N x (defScope st) f cdv A outer s H E) (defBody st) t ∧ t { nx := fun _ H' => Q .non H', rt := Q } (start N vs) H) : CalX P w K mg base (k + 1) x sp := by
  obtain ⟨f, fd, F, g, b⟩ := D.ex
  exact ⟨f, fd, ps, F.okX S len (hbody f), g, F.kp, b⟩
end
section
variable {X : Cx} {k j : Nat} {x : Str} {sp : Sp} {p pos : Pos} {e : Expr} {es : List Expr} {t : TA}
theorem pe_d (c : Cal X.prog X.w X.K X.mg X.base k x sp) (hr : Room j X.A) (ha : PA X (e :: es) t) (hk : k ≤ j := by decide) (hg : Gl X x := by rfl)
    (hdb : (x == ("__debug__" : Str)) = false := by decide) (he : starEach (e :: es) X.env = (false, eval e X.env) :: starEach es X.env := by rfl) (hpl : (backTo pos (starEach es X.env)).any (·.1) = false := by rfl) :
    PE X (.Call (.Name x p) (e :: es) [] pos) (tCall sp [] E0 t) := by
  obtain ⟨f, fd, ps, F, hm, kp, b⟩ := c.ex
  exact pe_call F (hr.mono hk) hg hm kp b .nil pass0 ha hdb he hpl
end
/-! the same rules, the written part a letter of its own: within a comprehension's block -/
section
variable {X : Cx} {K : PySem.W.Frag} {T name id f : String} {fs : Str}
theorem pe_fldK {e : Expr} {f : Str} {pos : Pos} {ta : TE} (hK : X.K = K) (he : PE X e ta) (hb : attributeBase e f X.env (eval e X.env) = eval e X.env) : PE X (.Attribute e f pos) (tFld K ta f) := by
  subst hK; exact pe_fld he hb
theorem op_inK (hK : X.K = K) : OpR X (compareOp .In) (rIn K false) := by subst hK; exact op_in_seq
theorem op_ninK (hK : X.K = K) : OpR X (compareOp .NotIn) (rIn K true) := by subst hK; exact op_notIn_seq
theorem ix_listK (hK : X.K = K) : IxR X (rIxL K) := by subst hK; exact ix_list
theorem mt_indexK (hK : X.K = K) : MtR X "list.index" (rIndex K) := by subst hK; exact mt_index
theorem mt_lcountK (hK : X.K = K) : MtR X "list.count" (rCntI K) := by subst hK; exact mt_lcount
theorem pe_bmK {T : String} {name : Str} {id : String} {r : V → List V → Hp → VK → Prop} {o e : Expr} {es : List Expr} {to : TE} {t : TA} {apos cpos : Pos} (hK : X.K = K) (pa : PlainAttrs T) (slot : Slot T name id) (hty : typeOf (.builtin id) = pure (.type "method_descriptor")) (hm : MtR X id r) (ho : PE X o to) (ha : PA X (e :: es) t)
    (hbase : attributeBase o name X.env (eval o X.env) = eval o X.env := by rfl)
    (hfew : ((backTo cpos (starEach (e :: es) X.env)).all (fun x => !x.1) && (backToKw cpos (keywordEach [] X.env)).all (fun x => x.1.isSome)
      && decide ((e :: es).length + ([] : List Keyword).length + (if ([] : List Keyword).isEmpty then 0 else 1) < 30)) = true := by rfl)
    (hline : (apos.endLine == cpos.line) = true := by rfl) (hs : starEach (e :: es) X.env = (false, eval e X.env) :: starEach es X.env := by rfl) (hplain : (backTo cpos (starEach es X.env)).any (·.1) = false := by rfl) :
    PE X (.Call (.Attribute o name apos) (e :: es) [] cpos) (tBM K T r to t) := by
  subst hK; exact pe_bm pa slot hty hm ho ha hbase hfew hline hs hplain
end
/-- the built-in names that the program uses stand for the built-ins -/
structure Blt (mg : Str → Option Value) : Prop where
  len : mg "len" = none
  range : mg "range" = none
  sum : mg "sum" = none
  all : mg "all" = none
  any : mg "any" = none
  int : mg "int" = none
  sorted : mg "sorted" = none
  zip : mg "zip" = none
  set : mg "set" = none
  list : mg "list" = none
  dict : mg "dict" = none

/-! ### what stands in the heap -/
def nV (n : Nat) : V := .int (n : Int)
def nats (l : List Nat) : List V := l.map nV
def zs (l : List Int) : List V := l.map V.int
def rk (l : List Mem) : List (L2.Key × V) := l.map fun m => (.inl (m.key : Int), nV m.room)
/-- members' rooms, by keys -/
structure RoomsAt (H : Hp) (d : Addr) (ms : List Mem) : Prop where
  lt : (keysM ms).Pairwise (· < ·)
  few : ms.length ≤ 8
  ex : ∃ l : List Mem, l.Perm ms ∧ H d = some (.dK (rk l))
theorem RoomsAt.ext {H H' : Hp} {d : Addr} {ms : List Mem} (r : RoomsAt H d ms) (e : Ex H H') : RoomsAt H' d ms := by
  obtain ⟨l, p, h⟩ := r.ex
  exact ⟨r.lt, r.few, l, p, e _ _ h⟩
theorem nats_zs (l : List Nat) : nats l = (l.map fun (n : Nat) => (n : Int)).map V.int := by
  unfold nats
  rw [List.map_map]; rfl

/-! ### what evaluates to what: more words over Evl -/
section
variable {K : PySem.W.Frag} {σ : L2.St} {H H' : Hp} {ta tb te tx : TE} {t u : TT} {x y z v : V} {r : R2} {D : Ends} {tz : TS}
def EvAs (ta : TA) (σ : L2.St) (H : Hp) (P : List V → Hp → Prop) : Prop := ∀ H1, Ex H H1 → ∀ Q : List V → Hp → Prop, (∀ vs H2, Ex H1 H2 → P vs H2 → Q vs H2) → ta σ H1 Q
theorem as_nil {P : List V → Hp → Prop} (h : ∀ H1, Ex H H1 → P [] H1) : EvAs tNil σ H P := fun H1 e _ q => q [] H1 (Ex.refl H1) (h H1 e)
theorem as_v {tr : TA} {P : List V → Hp → Prop} (h : Ev te σ H v) (hr : EvAs tr σ H fun vs H1 => P (v :: vs) H1) : EvAs (tCons te tr) σ H P := fun H1 e _ q =>
  h H1 e _ fun H2 e2 => hr H2 (e.trans e2) _ fun vs H3 e3 p => q _ H3 (e2.trans e3) p
theorem as_L {tr : TA} {xs : List V} {P : List V → Hp → Prop} (h : EvL te σ H xs) (hr : ∀ p H1, Ex H H1 → H1 p = some (.lst xs) → EvAs tr σ H1 fun vs H2 => P (.ref p :: vs) H2) : EvAs (tCons te tr) σ H P := fun H1 e _ q =>
  h H1 e _ fun p H2 _ e2 h2 => hr p H2 (e.trans e2) h2 H2 (Ex.refl H2) _ fun vs H3 e3 p => q _ H3 (e2.trans e3) p
theorem ev_cal {sp : Sp} {E : XK} {ta : TA} (h : EvAs ta σ H fun vs H1 => SpV sp (vs ++ []) H1 z) : Ev (tCall sp [] E ta) σ H z := fun H1 e Q q =>
  h H1 e _ fun vs H2 e2 p => p H2 (Ex.refl H2) Q (fun H3 e3 => q H3 (e2.trans e3)) E
theorem el_cal {sp : Sp} {E : XK} {ta : TA} {xs : List V} (h : EvAs ta σ H fun vs H1 => SpL sp (vs ++ []) H1 xs) : EvL (tCall sp [] E ta) σ H xs := fun H1 e Q q =>
  h H1 e _ fun vs H2 e2 p => p H2 (Ex.refl H2) Q (fun a H3 hp e3 h3 => q a H3 (fresh_back e2 hp) (e2.trans e3) h3) E
theorem ev_cbs {r : List V → Hp → VK → Prop} {ta : TA} (h : EvAs ta σ H fun vs H1 => RC r vs H1 z) : Ev (tCB r ta) σ H z := fun H1 e Q q =>
  h H1 e _ fun vs H2 e2 p => p H2 (Ex.refl H2) Q fun H3 e3 => q H3 (e2.trans e3)
theorem el_cbs {r : List V → Hp → VK → Prop} {ta : TA} {xs : List V} (h : EvAs ta σ H fun vs H1 => RCL r vs H1 xs) : EvL (tCB r ta) σ H xs := fun H1 e Q q =>
  h H1 e _ fun vs H2 e2 p => p H2 (Ex.refl H2) Q fun a H3 hp e3 h3 => q a H3 (fresh_back e2 hp) (e2.trans e3) h3
/-- a built-in method's call that changes nothing -/
theorem ev_bm {T : String} {r : V → List V → Hp → VK → Prop} {to : TE} {ta : TA} (ho : Ev to σ H x) (ht : ∀ H1, Ex H H1 → tyV K T x H1) (h : EvAs ta σ H fun vs H1 => ∀ Q : VK, (∀ H2, Ex H1 H2 → Q z H2) → r x vs H1 Q) : Ev (tBM K T r to ta) σ H z := fun H1 e Q q =>
  ho H1 e _ fun H2 e2 => ⟨ht H2 (e.trans e2), h H2 (e.trans e2) _ fun vs H3 e3 p => p Q fun H4 e4 => q H4 ((e2.trans e3).trans e4)⟩
theorem ev_fld {a C dx : Addr} {fs : List (Str × V)} {f : Str} (h : Ev te σ H (.ref a)) (ho : H a = some (.ins C dx fs)) (c : Cls K C) (n : NoAttr K C f) (hl : fs.lookup f = some v) : Ev (tFld K te f) σ H v := fun H1 e Q q =>
  h H1 e _ fun H2 e2 => ⟨a, C, dx, fs, v, rfl, e2 a _ (e a _ ho), c, n, hl, q H2 e2⟩
theorem et_yes : EvT tYes σ H true := fun H1 _ _ q => q H1 (Ex.refl H1)
theorem et_tst {b : Bool} (h : Ev te σ H (.bl b)) : EvT (tTest te) σ H b := et_test h
theorem rv_and (a b : Nat) : RV (rI0 fun i j => .int (Builtin.bitAnd i j)) (nV a) (nV b) H (nV (a &&& b)) := fun H1 e Q q => ⟨_, _, rfl, rfl, by
  have e : Builtin.bitAnd (a : Int) (b : Int) = ((a &&& b : Nat) : Int) := by rw [bitAnd_pp (by omega) (by omega), Int.toNat_natCast, Int.toNat_natCast]
  show Q (V.int (Builtin.bitAnd (a : Int) (b : Int))) H1
  rw [e]; exact q _ (Ex.refl _)⟩
theorem nV_eq (a b : Nat) : decide (nV a = nV b) = decide (a = b) := by
  by_cases h : a = b
  · subst h; simp
  · rw [decide_eq_false h, decide_eq_false]
    intro z
    exact h (Int.ofNat.inj (V.int.inj z))
theorem int_eq (a b : Int) : decide (V.int a = V.int b) = decide (a = b) := by
  by_cases h : a = b
  · subst h; simp
  · rw [decide_eq_false h, decide_eq_false]
    intro z
    exact h (V.int.inj z)
theorem rv_eqN (a b : Nat) : RV rEq (nV a) (nV b) H (.bl (decide (a = b))) := by
  rw [← nV_eq]; exact rv_eq rfl
theorem rv_eqI (a b : Int) : RV rEq (.int a) (.int b) H (.bl (decide (a = b))) := by
  rw [← int_eq]; exact rv_eq rfl
theorem rv_neI (a b : Int) : RV rNe (.int a) (.int b) H (.bl (!decide (a = b))) := by
  rw [← int_eq]; exact rv_ne rfl
theorem ev_to {w : V} (h : Ev te σ H v) (e : v = w) : Ev te σ H w := ev_is h e
theorem el_to {xs ys : List V} (h : EvL te σ H xs) (e : xs = ys) : EvL te σ H ys := e ▸ h
/-- a comprehension over a list whose items are told by a list -/
theorem given_map {α : Type} [Inhabited α] (L : List α) (f : α → Bool) (h : α → V) : given L.length (fun i => f (L.getD i default)) (fun i => h (L.getD i default)) = (L.filter f).map h := by
  have e : (List.range L.length).map (fun i => L.getD i default) = L := by
    apply List.ext_getElem?
    intro i
    rw [List.getElem?_map]
    by_cases hi : i < L.length
    · rw [List.getElem?_range hi]
      simp [List.getD_eq_getElem?_getD, hi]
    · rw [List.getElem?_eq_none (by simp; omega), List.getElem?_eq_none (by omega)]; rfl
  unfold given
  conv => rhs; rw [← e, List.filter_map, List.map_map]
  rfl
theorem el_lcM {α : Type} [Inhabited α] {a : Addr} {tl : TE} {j : Nat} {vs : List Nat} (L : List α) (g h : α → V) (f : α → Bool) (hl : Ev tl σ H (.ref a)) (hx : SqL K H a (L.map g)) (hz : L.length ≤ 40000) (hw : ∀ x, wipe ((wipe σ vs).set j (some x)) vs = wipe σ vs)
    (ht : ∀ x ∈ L, ∀ H1, Ex H H1 → EvT t ((wipe σ vs).set j (some (g x))) H1 (f x)) (he : ∀ x ∈ L, ∀ H1, Ex H H1 → f x = true → Ev te ((wipe σ vs).set j (some (g x))) H1 (h x)) :
    EvL (tLc (iList K tl) (gName j) t te vs) σ H ((L.filter f).map h) := by
  have key : ∀ (i : Nat) (x : V), (L.map g)[i]? = some x → x = g (L.getD i default) ∧ L.getD i default ∈ L := fun i x hi => by
    rw [List.getElem?_map] at hi
    cases q : L[i]? with
    | none => rw [q] at hi; cases hi
    | some y =>
      rw [q] at hi
      have e : L.getD i default = y := by rw [List.getD_eq_getElem?_getD, q]; rfl
      rw [e]
      exact ⟨(Option.some.inj hi).symm, List.mem_of_getElem? q⟩
  have := el_lcL (te := te) (t := t) (fun i => f (L.getD i default)) (fun i => h (L.getD i default)) hl hx (by rw [List.length_map]; exact hz) hw (fun i x H1 e hi => by
    obtain ⟨e1, e2⟩ := key i x hi
    rw [e1]; exact ht _ e2 H1 e) (fun i x H1 e hi hf => by
    obtain ⟨e1, e2⟩ := key i x hi
    rw [e1]; exact he _ e2 H1 e hf)
  rw [List.length_map, given_map] at this
  exact this
theorem el_lcNM {α : Type} [Inhabited α] {tl : TE} {j : Nat} {vs : List Nat} (L : List α) (g h : α → V) (f : α → Bool) (hl : EvL tl σ H (L.map g)) (hz : L.length ≤ 40000) (hw : ∀ x, wipe ((wipe σ vs).set j (some x)) vs = wipe σ vs)
    (ht : ∀ x ∈ L, ∀ H1, Ex H H1 → EvT t ((wipe σ vs).set j (some (g x))) H1 (f x)) (he : ∀ x ∈ L, ∀ H1, Ex H H1 → f x = true → Ev te ((wipe σ vs).set j (some (g x))) H1 (h x)) :
    EvL (tLc (iList K tl) (gName j) t te vs) σ H ((L.filter f).map h) := by
  have key : ∀ (i : Nat) (x : V), (L.map g)[i]? = some x → x = g (L.getD i default) ∧ L.getD i default ∈ L := fun i x hi => by
    rw [List.getElem?_map] at hi
    cases q : L[i]? with
    | none => rw [q] at hi; cases hi
    | some y =>
      rw [q] at hi
      have e : L.getD i default = y := by rw [List.getD_eq_getElem?_getD, q]; rfl
      rw [e]
      exact ⟨(Option.some.inj hi).symm, List.mem_of_getElem? q⟩
  have := el_lcNL (K := K) (te := te) (t := t) (fun i => f (L.getD i default)) (fun i => h (L.getD i default)) hl (by rw [List.length_map]; exact hz) hw (fun i x H1 e hi => by
    obtain ⟨e1, e2⟩ := key i x hi
    rw [e1]; exact ht _ e2 H1 e) (fun i x H1 e hi hf => by
    obtain ⟨e1, e2⟩ := key i x hi
    rw [e1]; exact he _ e2 H1 e hf)
  rw [List.length_map, given_map] at this
  exact this
theorem filter_true {α : Type} (L : List α) : L.filter (fun _ => true) = L := List.filter_eq_self.mpr fun _ _ => rfl
end

/-! ### members_of -/
def spMembers : Sp := fun vs H Q _ => ∃ (d : Addr) (ms : List Mem), vs = [.ref d] ∧ RoomsAt H d ms ∧ RetL (nats (keysM ms)) H Q
theorem sl_members {H : Hp} {d : Addr} {ms : List Mem} (R : RoomsAt H d ms) : SpL spMembers [.ref d] H (nats (keysM ms)) := fun _ e _ q _ => ⟨d, ms, rfl, R.ext e, q⟩
abbrev s_members_of : Stmt := top 14
abbrev N_members_of : List Str := ["rooms"]
abbrev P_members_of : List Str := ["rooms"]
theorem sc_members_of : FnScope N_members_of P_members_of (defScope s_members_of) := ⟨rfl, rfl, rfl, by decide +kernel, rfl, by decide +kernel, by decide +kernel⟩

section
variable {P : Program} {w : World} {K : PySem.W.Frag} {mg : Str → Option Value} {base : Heap}
theorem sort_keys {ms l : List Mem} (hs : (keysM ms).Pairwise (· < ·)) (p : l.Perm ms) {ys : List Int} (h1 : ys.Perm ((keysM l).map fun (n : Nat) => (n : Int))) (h2 : ys.Pairwise (· ≤ ·)) : ys = (keysM ms).map fun (n : Nat) => (n : Int) := by
  have h3 : ((keysM ms).map fun (n : Nat) => (n : Int)).Pairwise (· ≤ ·) := by
    rw [List.pairwise_map]
    exact hs.imp fun h => by omega
  refine List.Perm.eq_of_pairwise (le := (· ≤ ·)) (fun a b _ _ => Int.le_antisymm) h2 h3 (h1.trans ?_)
  exact (p.map _).map _
theorem ok_members_of (D : Dfn K mg "members_of" s_members_of P_members_of) (B : Blt mg) : Cal P w K mg base 1 "members_of" spMembers := by
  refine cal_of D sc_members_of (fun vs H Q E h => ?_) fun f cdv A outer s H vs Q E hr h => ?_
  · obtain ⟨d, ms, rfl, _⟩ := h; rfl
  · refine ⟨_, (pss_one (ps_ret (pe_callB (call_sortedDI rfl) (by rfl) B.sorted (by decide +kernel) (by exact (pa_cons (pv 0) pa_nil))))), ?_⟩
    obtain ⟨d, ms, rfl, R, k⟩ := h
    obtain ⟨l, p, hd⟩ := R.ex
    refine ⟨_, rfl, d, rk l, (keysM l).map fun (n : Nat) => (n : Int), rfl, .inl hd, ?_, ?_, fun ys a h1 h2 ha => ?_⟩
    · unfold rk keysM
      rw [List.map_map, List.map_map, List.map_map]; rfl
    · have := p.length_eq
      have := R.few
      unfold keysM
      simp only [List.length_map]; omega
    · rw [sort_keys R.lt p h1 h2]
      refine k a _ ha (Ex.new ha) ?_
      rw [nats_zs]; exact upd_same
/-! ### bit_of, is_within -/
def spBit : Sp := fun vs H Q _ => ∃ (n : Nat), vs = [nV n] ∧ n ≤ 1000 ∧ RetV (nV (2 ^ n)) H Q
theorem sv_bit {H : Hp} {n : Nat} (h : n ≤ 1000) : SpV spBit [nV n] H (nV (2 ^ n)) := fun _ _ _ q _ => ⟨n, rfl, h, q⟩
abbrev s_bit_of : Stmt := top 15
abbrev N_bit_of : List Str := ["number"]
abbrev P_bit_of : List Str := ["number"]
theorem sc_bit_of : FnScope N_bit_of P_bit_of (defScope s_bit_of) := ⟨rfl, rfl, rfl, by decide +kernel, rfl, by decide +kernel, by decide +kernel⟩

theorem ok_bit_of (D : Dfn K mg "bit_of" s_bit_of P_bit_of) : Cal P w K mg base 1 "bit_of" spBit := by
  refine cal_of D sc_bit_of (fun vs H Q E h => ?_) fun f cdv A outer s H vs Q E hr h => ?_
  · obtain ⟨n, rfl, _⟩ := h; rfl
  · refine ⟨_, (pss_one (ps_ret (pe_op op_shl pe_int (pv 0)))), ?_⟩
    obtain ⟨n, rfl, hn, k⟩ := h
    refine ⟨_, rfl, _, _, rfl, rfl, ⟨by omega, by omega, by decide⟩, ?_⟩
    have e : (1 : Int) * 2 ^ (n : Int).toNat = ((2 ^ n : Nat) : Int) := by
      rw [Int.toNat_natCast, Int.one_mul]
      simp
    show Q (V.int ((1 : Int) * 2 ^ (n : Int).toNat)) H
    rw [e]
    exact k _ (Ex.refl _)
def spWithin : Sp := fun vs H Q _ => ∃ (a b : Nat), vs = [nV a, nV b] ∧ RetV (.bl (isW a b)) H Q
theorem sv_within {H : Hp} (a b : Nat) : SpV spWithin [nV a, nV b] H (.bl (isW a b)) := fun _ _ _ q _ => ⟨a, b, rfl, q⟩
abbrev s_is_within : Stmt := top 18
abbrev N_is_within : List Str := ["inner", "outer"]
abbrev P_is_within : List Str := ["inner", "outer"]
theorem sc_is_within : FnScope N_is_within P_is_within (defScope s_is_within) := ⟨rfl, rfl, rfl, by decide +kernel, rfl, by decide +kernel, by decide +kernel⟩

theorem ok_is_within (D : Dfn K mg "is_within" s_is_within P_is_within) : Cal P w K mg base 1 "is_within" spWithin := by
  refine cal_of D sc_is_within (fun vs H Q E h => ?_) fun f cdv A outer s H vs Q E hr h => ?_
  · obtain ⟨a, b, rfl, _⟩ := h; rfl
  · refine ⟨_, (pss_one (ps_ret (pe_cmpR op_eq (pe_op op_and (pv 0) (pv 1)) (pv 0) (nomark _)))), ?_⟩
    obtain ⟨a, b, rfl, k⟩ := h
    exact s_ret (ev_op (ev_op (ev_var rfl) (ev_var rfl) (rv_and a b)) (ev_var rfl) (rv_eqN _ _)) k
/-! ### set_of -/
def spSetOf (K : PySem.W.Frag) : Sp := fun vs H Q _ => ∃ (a b : Addr) (ks l : List Nat), vs = [.ref a, .ref b] ∧ SqL K H a (nats ks) ∧ SqL K H b (nats l) ∧ ks.length ≤ 1000 ∧ l.length ≤ 1000 ∧ (∀ k ∈ l, k ∈ ks) ∧ RetV (nV (setN ks l)) H Q
theorem sv_set {H : Hp} {a b : Addr} {ks l : List Nat} (h1 : SqL K H a (nats ks)) (h2 : SqL K H b (nats l)) (h3 : ks.length ≤ 1000) (h4 : l.length ≤ 1000) (h5 : ∀ k ∈ l, k ∈ ks) : SpV (spSetOf K) [.ref a, .ref b] H (nV (setN ks l)) :=
  fun _ e _ q _ => ⟨a, b, ks, l, rfl, ex_l e h1, ex_l e h2, h3, h4, h5, q⟩
abbrev s_set_of : Stmt := top 16
abbrev N_set_of : List Str := ["members", "keys", "key"]
abbrev P_set_of : List Str := ["members", "keys"]
theorem sc_set_of : FnScope N_set_of P_set_of (defScope s_set_of) := ⟨rfl, rfl, rfl, by decide +kernel, rfl, by decide +kernel, by decide +kernel⟩

theorem eqV_int (a b : Int) : eqV (.int a) (.int b) = decide (a = b) := by
  show (a == b) = _
  by_cases h : a = b <;> simp [h]
theorem flat_nats (l : List Nat) : (nats l).all flatV = true := List.all_eq_true.mpr fun x hx => by
  obtain ⟨n, _, rfl⟩ := List.mem_map.mp hx; rfl
theorem idx_ne : ∀ (ks : List Nat) (k m : Nat), m < ks.idxOf k → ∀ (h : m < ks.length), ks[m] ≠ k
  | [], _, _, hm, _ => by simp at hm
  | a :: ks, k, m, hm, h => by
    rw [List.idxOf_cons] at hm
    by_cases e : a = k
    · subst e; simp at hm
    · have e2 : (a == k) = false := by simp [e]
      rw [e2] at hm
      cases m with
      | zero => exact e
      | succ m =>
        have hm : m < ks.idxOf k := by simpa using hm
        exact idx_ne ks k m hm (Nat.lt_of_succ_lt_succ h)
/-- xs.index(k), of keys -/
theorem ev_index {σ : L2.St} {H : Hp} {a : Addr} {ks : List Nat} {k : Nat} {to te : TE} (ho : Ev to σ H (.ref a)) (hs : SqL K H a (nats ks)) (hk : k ∈ ks) (he : Ev te σ H (nV k)) : Ev (tBM K "list" (rIndex K) to (tCons te tNil)) σ H (nV (ks.idxOf k)) := by
  refine ev_bm ho (fun H1 e => .inl ⟨rfl, _, ex_l e hs⟩) (as_v he (as_nil fun H1 e Q q => ?_))
  have hl := List.idxOf_lt_length_of_mem hk
  refine ⟨a, nats ks, nV k, ks.idxOf k, nV k, rfl, rfl, ex_l e hs, rfl, flat_nats ks, ?_, ?_, fun m z' hm hz => ?_, q H1 (Ex.refl H1)⟩
  · unfold nats
    rw [List.getElem?_map, List.getElem?_eq_getElem hl, List.getElem_idxOf hl]; rfl
  · show eqV (.int _) (.int _) = true
    rw [eqV_int]; simp
  · unfold nats at hz
    rw [List.getElem?_map] at hz
    have hml : m < ks.length := Nat.lt_trans hm hl
    rw [List.getElem?_eq_getElem hml] at hz
    obtain rfl := Option.some.inj hz
    show eqV (.int _) (.int _) = false
    rw [eqV_int, decide_eq_false]
    intro z
    have z : ks[m] = k := Int.ofNat.inj z
    exact absurd z (idx_ne ks k m hm hml)
theorem sum_pow (ks : List Nat) : ∀ l : List Nat, (l.map fun k => ((2 ^ ks.idxOf k : Nat) : Int)).sum = ((setN ks l : Nat) : Int)
  | [] => rfl
  | x :: l => by
    have e : setN ks (x :: l) = 2 ^ ks.idxOf x + setN ks l := by
      unfold setN
      rw [List.map_cons, List.sum_cons]
    rw [List.map_cons, List.sum_cons, sum_pow ks l, e]
    omega
theorem ok_set_of (D : Dfn K mg "set_of" s_set_of P_set_of) (B : Blt mg) (c_bit_of : Cal P w K mg base 1 "bit_of" spBit) : Cal P w K mg base 2 "set_of" (spSetOf K) := by
  refine cal_of D sc_set_of (fun vs H Q E h => ?_) fun f cdv A outer s H vs Q E hr h => ?_
  · obtain ⟨a, b, ks, l, rfl, _⟩ := h; rfl
  · refine ⟨_, (pss_one (ps_ret (pe_callB (cr_sum rfl) (by rfl) B.sum (by decide +kernel) (by exact (pa_cons (pe_lc (own := [("key", 2)]) (g := gName 2) rfl sc_set_of.nd (pi_list (pv 1)) (blkOk_by (N := N_set_of) (sc := defScope s_set_of) (by decide +kernel)) (fun _ _ _ _ _ => by exact (pg_name (i := 2) sc_set_of.nd rfl (Or.inl rfl))) (fun _ _ _ _ _ => by exact pts_nil) (fun _ _ _ _ _ => by exact (pe_d c_bit_of hr (by exact (pa_cons (pe_bmK (K := K) rfl PySem.F.plainAttrs_list PySem.F.slot_list_index PySem.F.type_list_index (mt_indexK (K := K) rfl) (pv 0) (by exact (pa_cons (pv 2) pa_nil))) pa_nil))))) pa_nil))))), ?_⟩
    obtain ⟨a, b, ks, l, rfl, h1, h2, h3, h4, h5, k⟩ := h
    refine s_ret (ev_cbs (as_L (el_lcM l nV (fun k => nV (2 ^ ks.idxOf k)) (fun _ => true) (ev_var rfl) h2 (by omega) (fun _ => rfl) (fun _ _ _ _ => et_yes) fun x hx H1 e _ => ?_) fun p H1 e hp => as_nil fun H2 e2 => ?_)) k
    · exact ev_cal (as_v (ev_index (ev_var rfl) (ex_l e h1) (h5 x hx) (ev_var rfl)) (as_nil fun H2 e2 => sv_bit (by have := List.idxOf_lt_length_of_mem (h5 x hx); omega)))
    · intro H3 e3 Q q
      rw [filter_true] at hp
      refine ⟨p, (l.map fun k => ((2 ^ ks.idxOf k : Nat) : Int)), rfl, sq_of (by rw [List.map_map]; exact e3 _ _ (e2 _ _ hp)), ?_⟩
      rw [sum_pow]
      exact q _ (Ex.refl _)
end
end Cw
namespace Cw
open PySem PySem.Spec PyProof.Rows L2 Evl
open Cm (keysM setN isW hasB roomSl goesIn keptToo isFreeB withoutPlace movedBy allSl freeOf goalsOf GoalsOk keysOf leastOf isProof proofsOf boundsOf coversOf)
/-! ### clients in the heap -/
def cF (c : Cli) (t : Addr) : List (Str × V) := [("key", nV c.key), ("order", nV c.order), ("takers", .ref t)]
structure ClsC (K : PySem.W.Frag) (C : Addr) : Prop where
  cl : Cls K C
  nK : NoAttr K C "key"
  nO : NoAttr K C "order"
  nT : NoAttr K C "takers"
def ClAt (C : Addr) (H : Hp) (a : Addr) (c : Cli) : Prop := ∃ dx t, H a = some (.ins C dx (cF c t)) ∧ H t = some (.lst (nats c.takers))
abbrev AC := Addr × Cli
instance : Inhabited Cli := ⟨⟨0, 0, []⟩⟩
def refs (L : List AC) : List V := L.map fun x => V.ref x.1
theorem ClAt.ext {C : Addr} {H H' : Hp} {a : Addr} {c : Cli} (h : ClAt C H a c) (e : Ex H H') : ClAt C H' a c := by
  obtain ⟨dx, t, h1, h2⟩ := h
  exact ⟨dx, t, e _ _ h1, e _ _ h2⟩
theorem lk_here {k : Str} {v : V} {r : List (Str × V)} : List.lookup k ((k, v) :: r) = some v := by
  have e : (k == k) = true := beq_self_eq_true k
  simp only [List.lookup, e]
theorem lk_past {k g : Str} {v : V} {r : List (Str × V)} (h : (k == g) = false) : List.lookup k ((g, v) :: r) = List.lookup k r := by
  simp only [List.lookup, h]
theorem cF_key (c : Cli) (t : Addr) : (cF c t).lookup ("key" : Str) = some (nV c.key) := lk_here
theorem cF_order (c : Cli) (t : Addr) : (cF c t).lookup ("order" : Str) = some (nV c.order) := (lk_past (by decide +kernel)).trans lk_here
theorem cF_takers (c : Cli) (t : Addr) : (cF c t).lookup ("takers" : Str) = some (.ref t) := (lk_past (by decide +kernel)).trans ((lk_past (by decide +kernel)).trans lk_here)
section
variable {K : PySem.W.Frag} {C : Addr} {σ : L2.St} {H : Hp} {a : Addr} {c : Cli} {te : TE}
theorem ev_key (TC : ClsC K C) (h : Ev te σ H (.ref a)) (hc : ClAt C H a c) : Ev (tFld K te "key") σ H (nV c.key) := by
  obtain ⟨dx, t, h1, h2⟩ := hc
  exact ev_fld h h1 TC.cl TC.nK (cF_key c t)
theorem ev_order (TC : ClsC K C) (h : Ev te σ H (.ref a)) (hc : ClAt C H a c) : Ev (tFld K te "order") σ H (nV c.order) := by
  obtain ⟨dx, t, h1, h2⟩ := hc
  exact ev_fld h h1 TC.cl TC.nO (cF_order c t)
theorem ev_takers (TC : ClsC K C) (h : Ev te σ H (.ref a)) (hc : ClAt C H a c) : ∃ t, H t = some (.lst (nats c.takers)) ∧ Ev (tFld K te "takers") σ H (.ref t) := by
  obtain ⟨dx, t, h1, h2⟩ := hc
  exact ⟨t, h2, ev_fld h h1 TC.cl TC.nT (cF_takers c t)⟩
end
/-! ### items, sizes -/
section
variable {K : PySem.W.Frag} {σ : L2.St} {H : Hp} {a : Addr} {te ta : TE}
theorem at_zs {s : List Int} {i : Nat} (h : i < s.length) : atI (zs s) (i : Int) = some (.int (s.getD i 0)) := by
  refine at_of rfl ?_
  unfold zs
  rw [List.getElem?_map, List.getElem?_eq_getElem h, List.getD_eq_getElem?_getD, List.getElem?_eq_getElem h]; rfl
theorem at_nats {s : List Nat} {i : Nat} (h : i < s.length) : atI (nats s) (i : Int) = some (nV (s.getD i 0)) := by
  refine at_of rfl ?_
  unfold nats
  rw [List.getElem?_map, List.getElem?_eq_getElem h, List.getD_eq_getElem?_getD, List.getElem?_eq_getElem h]; rfl
theorem zs_len (s : List Int) : (zs s).length = s.length := List.length_map ..
theorem nats_len (s : List Nat) : (nats s).length = s.length := List.length_map ..
theorem refs_len (s : List AC) : (refs s).length = s.length := List.length_map ..
theorem ev_at {s : List Int} {i : Nat} (hs : SqL K H a (zs s)) (hi : i < s.length) (ha : Ev ta σ H (.ref a)) (h : Ev te σ H (nV i)) : Ev (tOp (rIxL K) ta te) σ H (.int (s.getD i 0)) := ev_op ha h (rv_ixL hs (at_zs hi))
theorem ev_atN {s : List Nat} {i : Nat} (hs : SqL K H a (nats s)) (hi : i < s.length) (ha : Ev ta σ H (.ref a)) (h : Ev te σ H (nV i)) : Ev (tOp (rIxL K) ta te) σ H (nV (s.getD i 0)) := ev_op ha h (rv_ixL hs (at_nats hi))
theorem ea_len {xs : List V} {n : Nat} (ha : Ev ta σ H (.ref a)) (hs : SqL K H a xs) (hn : xs.length = n) : EvA (tCons (tCB (rLenS K) (tCons ta tNil)) tNil) σ H [.int (n : Int)] := by
  subst hn
  exact ea_cons (ev_len ha hs) ea_nil
theorem rc_intB (k : Bool) : RC (fun xs H Q => (∃ i, xs = [V.int i] ∧ Q (.int i) H) ∨ ∃ k, xs = [V.bl k] ∧ Q (.int (if k = true then 1 else 0)) H) [.bl k] H (.int (if k = true then 1 else 0)) := fun H1 _ Q q => .inr ⟨k, rfl, q H1 (Ex.refl H1)⟩
theorem rc_all {bs : List Bool} (h : SqL K H a (bs.map V.bl)) : RC (rAll K) [.ref a] H (.bl (bs.all id)) := fun H1 e Q q => ⟨a, bs, rfl, ex_l e h, q H1 (Ex.refl H1)⟩
theorem rc_any {bs : List Bool} (h : SqL K H a (bs.map V.bl)) : RC (rAny K) [.ref a] H (.bl (bs.any id)) := fun H1 e Q q => ⟨a, bs, rfl, ex_l e h, q H1 (Ex.refl H1)⟩
/-- all of a list just made -/
theorem ev_allN {α : Type} {L : List α} {g : α → Bool} (h : EvL te σ H (L.map fun x => V.bl (g x))) : Ev (tCB (rAll K) (tCons te tNil)) σ H (.bl (L.all g)) := by
  refine ev_cbs (as_L h fun p H1 e hp => as_nil fun H2 e2 => ?_)
  have := rc_all (K := K) (H := H2) (a := p) (bs := L.map g) (sq_of (by rw [List.map_map]; exact e2 _ _ hp))
  rw [List.all_map] at this
  exact this
theorem ev_anyN {α : Type} {L : List α} {g : α → Bool} (h : EvL te σ H (L.map fun x => V.bl (g x))) : Ev (tCB (rAny K) (tCons te tNil)) σ H (.bl (L.any g)) := by
  refine ev_cbs (as_L h fun p H1 e hp => as_nil fun H2 e2 => ?_)
  have := rc_any (K := K) (H := H2) (a := p) (bs := L.map g) (sq_of (by rw [List.map_map]; exact e2 _ _ hp))
  rw [List.any_map] at this
  exact this
/-- a comprehension over the indices of a list -/
theorem el_lcR {t : TT} {ta : TA} {j : Nat} {vs : List Nat} {n : Nat} (f : Nat → Bool) (v : Nat → V) (h : EvA ta σ H [.int (n : Int)]) (hn : n ≤ 40000) (hw : ∀ x, wipe ((wipe σ vs).set j (some x)) vs = wipe σ vs)
    (ht : ∀ (i : Nat) H1, Ex H H1 → i < n → EvT t ((wipe σ vs).set j (some (nV i))) H1 (f i)) (he : ∀ (i : Nat) H1, Ex H H1 → i < n → f i = true → Ev te ((wipe σ vs).set j (some (nV i))) H1 (v i)) :
    EvL (tLc (iRng1 ta) (gName j) t te vs) σ H (((List.range n).filter f).map v) := by
  have := el_lcR1 (te := te) (t := t) f v h ⟨by omega, by omega⟩ hw (fun i H1 e hi => ht i H1 e (by omega)) (fun i H1 e hi hf => he i H1 e (by omega) hf)
  rw [Int.toNat_natCast] at this
  exact this
end
section
variable {P : Program} {w : World} {K : PySem.W.Frag} {mg : Str → Option Value} {base : Heap} {C : Addr}
/-! ### keys_of -/
def spKeysOf (K : PySem.W.Frag) : Sp := fun vs H Q _ => ∃ (a : Addr) (ks : List Nat) (X : Nat), vs = [.ref a, nV X] ∧ SqL K H a (nats ks) ∧ ks.length ≤ 1000 ∧ RetL (nats (keysOf ks X)) H Q
theorem sl_keysOf {H : Hp} {a : Addr} {ks : List Nat} {X : Nat} (h : SqL K H a (nats ks)) (hn : ks.length ≤ 1000) : SpL (spKeysOf K) [.ref a, nV X] H (nats (keysOf ks X)) := fun _ e _ q _ => ⟨a, ks, X, rfl, ex_l e h, hn, q⟩
abbrev s_keys_of : Stmt := top 17
abbrev N_keys_of : List Str := ["members", "chosen", "at"]
abbrev P_keys_of : List Str := ["members", "chosen"]
theorem sc_keys_of : FnScope N_keys_of P_keys_of (defScope s_keys_of) := ⟨rfl, rfl, rfl, by decide +kernel, rfl, by decide +kernel, by decide +kernel⟩

theorem ev_hasB {σ : L2.St} {H : Hp} {ta tb : TE} {x b : Nat} (ha : Ev ta σ H (nV x)) (hb : Ev tb σ H (nV b)) : Ev (tOp rNe (tOp (rI0 fun i j => .int (Builtin.bitAnd i j)) ta tb) (tC (.int 0))) σ H (.bl (hasB x b)) := by
  refine ev_to (ev_op (ev_op ha hb (rv_and x b)) ev_c (rv_neI _ _)) ?_
  unfold hasB
  by_cases h : x &&& b = 0
  · rw [h]; rfl
  · have h2 : ¬ ((x &&& b : Nat) : Int) = 0 := by omega
    rw [decide_eq_false h2, decide_eq_true h]; rfl
theorem ok_keys_of (D : Dfn K mg "keys_of" s_keys_of P_keys_of) (B : Blt mg) (c_bit_of : Cal P w K mg base 1 "bit_of" spBit) : Cal P w K mg base 2 "keys_of" (spKeysOf K) := by
  refine cal_of D sc_keys_of (fun vs H Q E h => ?_) fun f cdv A outer s H vs Q E hr h => ?_
  · obtain ⟨a, ks, X, rfl, _⟩ := h; rfl
  · refine ⟨_, (pss_one (ps_ret (pe_lc (own := [("at", 2)]) (g := gName 2) rfl sc_keys_of.nd (pi_range1 rfl B.range (by exact (pa_cons (pe_callB call_len_seq (by rfl) B.len (by decide +kernel) (by exact (pa_cons (pv 0) pa_nil))) pa_nil))) (blkOk_by (N := N_keys_of) (sc := defScope s_keys_of) (by decide +kernel)) (fun _ _ _ _ _ => by exact (pg_name (i := 2) sc_keys_of.nd rfl (Or.inl rfl))) (fun _ _ _ _ _ => by exact (pts_one (pt_cmpR op_ne (pe_op op_and (pv 1) (pe_d c_bit_of hr (by exact (pa_cons (pv 2) pa_nil)))) pe_int (nomark _)))) (fun _ _ _ _ _ => by exact (pe_ix (ix_listK (K := K) rfl) (pv 0) (pv 2) (fun _ _ => rfl)))))), ?_⟩
    obtain ⟨a, ks, X, rfl, h1, hn, k⟩ := h
    refine s_retL (el_to (el_lcR (fun i => hasB X (2 ^ i)) (fun i => nV (ks.getD i 0)) (ea_len (ev_var rfl) h1 (nats_len ks)) (by omega) (fun _ => rfl) (fun i H1 e hi => et_test (ev_hasB (ev_var rfl) (ev_cal (as_v (ev_var rfl) (as_nil fun H2 e2 => sv_bit (by omega))))))
      fun i H1 e hi _ => ev_atN (ex_l e h1) hi (ev_var rfl) (ev_var rfl)) ?_) k
    unfold keysOf nats
    rw [List.map_map]; rfl
/-! ### room_slacks -/
def spRooms : Sp := fun vs H Q _ => ∃ (d : Addr) (ms : List Mem), vs = [.ref d] ∧ RoomsAt H d ms ∧ RetL (zs (roomSl ms)) H Q
theorem sl_rooms {H : Hp} {d : Addr} {ms : List Mem} (R : RoomsAt H d ms) : SpL spRooms [.ref d] H (zs (roomSl ms)) := fun _ e _ q _ => ⟨d, ms, rfl, R.ext e, q⟩
theorem key_nodup {ms : List Mem} (h : (keysM ms).Pairwise (· < ·)) : (keysM ms).Nodup := Cm.lt_nodup h
theorem rk_get {l : List Mem} (nd : (keysM l).Nodup) {m : Mem} (h : m ∈ l) : valV (rk l) (Sum.inl (m.key : Int)) = some (nV m.room) := by
  unfold valV rk
  induction l with
  | nil => cases h
  | cons a l ih =>
    have nd' : a.key ∉ keysM l ∧ (keysM l).Nodup := List.nodup_cons.mp nd
    rw [List.map_cons, List.find?_cons]
    rcases List.mem_cons.mp h with rfl | h
    · simp
    · have hne : a.key ≠ m.key := fun z => nd'.1 (z ▸ List.mem_map.mpr ⟨m, h, rfl⟩)
      have e : decide ((Sum.inl (a.key : Int) : L2.Key) = Sum.inl (m.key : Int)) = false := by
        rw [decide_eq_false_iff_not]
        intro z
        exact hne (Int.ofNat.inj (Sum.inl.inj z))
      rw [e]
      exact ih nd'.2 h
theorem RoomsAt.get {H : Hp} {d : Addr} {ms : List Mem} (R : RoomsAt H d ms) {m : Mem} (h : m ∈ ms) : DGet H d (nV m.key) (some (nV m.room)) := by
  obtain ⟨l, p, hd⟩ := R.ex
  have := rk_get (l := l) ((p.map _).nodup_iff.mpr (key_nodup R.lt)) (p.mem_iff.mpr h)
  have g := DGet.k (k := Sum.inl (m.key : Int)) hd
  rw [this] at g
  exact g
/-- d[k], of members' rooms -/
theorem ev_room {σ : L2.St} {H : Hp} {d : Addr} {ms : List Mem} {m : Mem} {td ty : TE} (R : RoomsAt H d ms) (h : m ∈ ms) (hd : Ev td σ H (.ref d)) (hy : Ev ty σ H (nV m.key)) : Ev (tDGet td ty) σ H (nV m.room) := fun H1 e Q q =>
  hd H1 e _ fun H2 e2 => hy H2 (e.trans e2) _ fun H3 e3 => ⟨d, nV m.room, rfl, (R.ext ((e.trans e2).trans e3)).get h, q H3 (e2.trans e3)⟩
abbrev s_room_slacks : Stmt := top 19
abbrev N_room_slacks : List Str := ["rooms", "found", "key", "slack"]
abbrev P_room_slacks : List Str := ["rooms"]
theorem sc_room_slacks : FnScope N_room_slacks P_room_slacks (defScope s_room_slacks) := ⟨rfl, rfl, rfl, by decide +kernel, rfl, by decide +kernel, by decide +kernel⟩

theorem roomSl_take (ms : List Mem) {i : Nat} {m : Mem} (h : ms[i]? = some m) : roomSl (ms.take (i + 1)) = roomSl (ms.take i) ++ (roomSl (ms.take i)).map fun s => s + (m.room : Int) := by
  obtain ⟨hi, rfl⟩ := List.getElem?_eq_some_iff.mp h
  rw [List.take_succ_eq_append_getElem hi, Cm.roomSl_snoc]
theorem roomSl_len : ∀ (ms : List Mem), (roomSl ms).length = 2 ^ ms.length := by
  have key : ∀ (k : Nat) (ms : List Mem), ms.length = k → (roomSl ms).length = 2 ^ ms.length := by
    intro k
    induction k with
    | zero => intro ms h; obtain rfl := List.eq_nil_of_length_eq_zero h; rfl
    | succ k ih =>
      intro ms h
      have hne : ms ≠ [] := by rintro rfl; cases h
      obtain ⟨l, m, rfl⟩ : ∃ l m, ms = l ++ [m] := ⟨ms.dropLast, ms.getLast hne, (List.dropLast_concat_getLast hne).symm⟩
      have hl : l.length = k := by simpa using h
      rw [Cm.roomSl_snoc, List.length_append, List.length_map, ih l hl, List.length_append]
      show _ = 2 ^ (l.length + 1)
      rw [Nat.two_pow_succ]
  exact fun ms => key _ ms rfl
theorem pow_le {n : Nat} (h : n ≤ 8) : 2 ^ n ≤ 256 := Nat.pow_le_pow_right (by decide) h
theorem ok_room_slacks (D : Dfn K mg "room_slacks" s_room_slacks P_room_slacks) (c_members_of : Cal P w K mg base 1 "members_of" spMembers) : Cal P w K mg base 2 "room_slacks" spRooms := by
  refine cal_of D sc_room_slacks (fun vs H Q E h => ?_) fun f cdv A outer s H vs Q E hr h => ?_
  · obtain ⟨a, ms, rfl, _⟩ := h; rfl
  · refine ⟨_, (pss_cons (ps_set (i := 1) sc_room_slacks.nd rfl (Or.inl rfl) (pe_lst (by exact (pa_cons pe_int pa_nil))))
  (pss_cons (ps_for PassesOwn.never rfl (pi_list (pe_d c_members_of hr (by exact (pa_cons (pv 0) pa_nil)))) (pg_name (i := 2) sc_room_slacks.nd rfl (Or.inr rfl))
  (pss_one (ps_set (i := 1) sc_room_slacks.nd rfl (Or.inl rfl) (pe_op op_cat (pv 1) (pe_lc (own := [("slack", 3)]) (g := gName 3) rfl sc_room_slacks.nd (pi_list (pv 1)) (blkOk_by (N := N_room_slacks) (sc := defScope s_room_slacks) (by decide +kernel)) (fun _ _ _ _ _ => by exact (pg_name (i := 3) sc_room_slacks.nd rfl (Or.inl rfl))) (fun _ _ _ _ _ => by exact pts_nil) (fun _ _ _ _ _ => by exact (pe_op op_add (pv 3) (pe_dget (hu_of hr) (pv 0) (pv 2) (fun _ _ => rfl)))))))))
  (pss_one (ps_ret (pv 1))))), ?_⟩
    obtain ⟨d, ms, rfl, R, k⟩ := h
    refine q_asgL (el_lst (ea_cons ev_c ea_nil) (by decide)) fun q H1 hq e1 h1 => ?_
    refine q_forNLn (el_cal (as_v (ev_var rfl) (as_nil fun H2 e2 => sl_members ((R.ext e1).ext e2)))) (fun p i σ' H' => ∃ (q : Addr) (v3 v4 : Option V), σ' = [some (.ref d), some (.ref q), v3, v4] ∧ Ex H H' ∧ H q = none ∧ H' p = some (.lst (nats (keysM ms))) ∧ H' q = some (.lst (zs (roomSl (ms.take i)))))
      (fun p H2 hp e2 h2 => ⟨q, none, none, rfl, e1.trans e2, hq, h2, e2 _ _ h1⟩) (fun p i σ' H' hi ⟨q, v3, v4, _, _, _, hp, _⟩ => sq_of hp) (fun p i x σ' H' hx ⟨q, v3, v4, e, ex, hq, hp, hqq⟩ => ?_) (fun p σ' H' ⟨q, v3, v4, e, ex, hq, hp, hqq⟩ => ?_)
    · subst e
      unfold nats keysM at hx
      rw [List.getElem?_map, List.getElem?_map] at hx
      cases hm : ms[i]? with
      | none => rw [hm] at hx; cases hx
      | some m =>
        rw [hm] at hx
        obtain rfl : nV m.key = x := Option.some.inj hx
        have hmm : m ∈ ms := List.mem_of_getElem? hm
        have hsz : (roomSl (ms.take i)).length ≤ 256 := by
          rw [roomSl_len]
          exact pow_le (by rw [List.length_take]; have := R.few; omega)
        -- found + [slack + rooms[key] for slack in found]
        have hc : EvL (tLc (iList K (tVar 1)) (gName 3) tYes (tOp (rI0 fun i j => .int (i + j)) (tVar 3) (tDGet (tVar 0) (tVar 2))) [3]) [some (.ref d), some (.ref q), some (nV m.key), v4] H' (zs ((roomSl (ms.take i)).map fun s => s + (m.room : Int))) := by
          refine el_to (el_lcM (roomSl (ms.take i)) V.int (fun s => .int (s + (m.room : Int))) (fun _ => true) (ev_var rfl) (sq_of hqq) (by omega) (fun _ => rfl) (fun _ _ _ _ => et_yes) fun y hy H2 e2 _ => ?_) ?_
          · exact ev_op (ev_var rfl) (ev_room (R.ext (ex.trans e2)) hmm (ev_var rfl) (ev_var rfl)) rv_I0
          · rw [filter_true]; unfold zs; rw [List.map_map]; rfl
        show tAsg (tOp _ (tVar 1) _) (gName 1) _ _ H'
        refine ⟨_, rfl, hc H' (Ex.refl H') _ fun r H2 hr2 e2 h2 => ?_⟩
        refine ⟨q, r, _, _, rfl, rfl, e2 _ _ hqq, h2, ?_, fun p2 hp2 => ?_⟩
        · rw [zs_len, zs_len, List.length_map]
          exact sz_of (by omega)
        · have ne : ∀ {b o}, H' b = some o → b ≠ p2 := fun hb => ne_of_none (e2 _ _ hb) hp2
          refine ⟨p2, some (nV m.key), v4, rfl, (ex.trans e2).trans (Ex.new hp2), ?_, ?_, ?_⟩
          · exact fresh_back (ex.trans e2) hp2
          · rw [upd_ne (ne hp)]; exact e2 _ _ hp
          · rw [upd_same, roomSl_take ms hm]
            unfold zs; rw [List.map_append]
    · subst e
      unfold nats keysM at hqq
      rw [List.length_map, List.length_map, List.take_length] at hqq
      exact s_ret (ev_var rfl) fun H2 e2 => k q H2 hq (ex.trans e2) (e2 _ _ hqq)
/-! ### goes_in, kept_too -/
def spGoes (K : PySem.W.Frag) : Sp := fun vs H Q _ => ∃ (a : Addr) (s : List Int) (own : Nat), vs = [.ref a, nV own] ∧ SqL K H a (zs s) ∧ s.length ≤ 1000 ∧ RetV (.bl (goesIn s own)) H Q
theorem sv_goes {H : Hp} {a : Addr} {s : List Int} (own : Nat) (h : SqL K H a (zs s)) (hn : s.length ≤ 1000) : SpV (spGoes K) [.ref a, nV own] H (.bl (goesIn s own)) := fun _ e _ q _ => ⟨a, s, own, rfl, ex_l e h, hn, q⟩
abbrev s_goes_in : Stmt := top 20
abbrev N_goes_in : List Str := ["slacks", "own", "chosen"]
abbrev P_goes_in : List Str := ["slacks", "own"]
theorem sc_goes_in : FnScope N_goes_in P_goes_in (defScope s_goes_in) := ⟨rfl, rfl, rfl, by decide +kernel, rfl, by decide +kernel, by decide +kernel⟩

theorem ev_within {σ : L2.St} {H : Hp} {ta tb : TE} {a b : Nat} {E : XK} (ha : Ev ta σ H (nV a)) (hb : Ev tb σ H (nV b)) : Ev (tCall spWithin [] E (tCons ta (tCons tb tNil))) σ H (.bl (isW a b)) := ev_cal (as_v ha (as_v hb (as_nil fun _ _ => sv_within a b)))
theorem ok_goes_in (D : Dfn K mg "goes_in" s_goes_in P_goes_in) (B : Blt mg) (c_is_within : Cal P w K mg base 1 "is_within" spWithin) : Cal P w K mg base 2 "goes_in" (spGoes K) := by
  refine cal_of D sc_goes_in (fun vs H Q E h => ?_) fun f cdv A outer s H vs Q E hr h => ?_
  · obtain ⟨a, s, own, rfl, _⟩ := h; rfl
  · refine ⟨_, (pss_one (ps_ret (pe_callB (cr_all rfl) (by rfl) B.all (by decide +kernel) (by exact (pa_cons (pe_lc (own := [("chosen", 2)]) (g := gName 2) rfl sc_goes_in.nd (pi_range1 rfl B.range (by exact (pa_cons (pe_callB call_len_seq (by rfl) B.len (by decide +kernel) (by exact (pa_cons (pv 0) pa_nil))) pa_nil))) (blkOk_by (N := N_goes_in) (sc := defScope s_goes_in) (by decide +kernel)) (fun _ _ _ _ _ => by exact (pg_name (i := 2) sc_goes_in.nd rfl (Or.inl rfl))) (fun _ _ _ _ _ => by exact (pts_one (pt_val (pe_d c_is_within hr (by exact (pa_cons (pv 1) (pa_cons (pv 2) pa_nil))))))) (fun _ _ _ _ _ => by exact (pe_cmpR op_gt (pe_ix (ix_listK (K := K) rfl) (pv 0) (pv 2) (fun _ _ => rfl)) pe_int (nomark _)))) pa_nil))))), ?_⟩
    obtain ⟨a, s, own, rfl, h1, hn, k⟩ := h
    refine s_ret (ev_to (ev_allN (g := fun x => decide (0 < s.getD x 0)) (el_lcR (fun i => isW own i) (fun i => .bl (decide (0 < s.getD i 0))) (ea_len (ev_var rfl) h1 (zs_len s)) (by omega) (fun _ => rfl) (fun i H1 e hi => et_B (ev_within (ev_var rfl) (ev_var rfl)))
      fun i H1 e hi _ => ev_op (ev_at (ex_l e h1) hi (ev_var rfl) (ev_var rfl)) ev_c rv_I0)) ?_) k
    unfold goesIn
    rw [List.all_filter]
def spKept (K : PySem.W.Frag) : Sp := fun vs H Q _ => ∃ (a : Addr) (s : List Int) (own : Nat), vs = [.ref a, nV own] ∧ SqL K H a (zs s) ∧ s.length ≤ 1000 ∧ RetL (zs (keptToo s own)) H Q
theorem sl_kept {H : Hp} {a : Addr} {s : List Int} (own : Nat) (h : SqL K H a (zs s)) (hn : s.length ≤ 1000) : SpL (spKept K) [.ref a, nV own] H (zs (keptToo s own)) := fun _ e _ q _ => ⟨a, s, own, rfl, ex_l e h, hn, q⟩
abbrev s_kept_too : Stmt := top 21
abbrev N_kept_too : List Str := ["slacks", "own", "chosen"]
abbrev P_kept_too : List Str := ["slacks", "own"]
theorem sc_kept_too : FnScope N_kept_too P_kept_too (defScope s_kept_too) := ⟨rfl, rfl, rfl, by decide +kernel, rfl, by decide +kernel, by decide +kernel⟩

theorem ok_kept_too (D : Dfn K mg "kept_too" s_kept_too P_kept_too) (B : Blt mg) (c_is_within : Cal P w K mg base 1 "is_within" spWithin) : Cal P w K mg base 2 "kept_too" (spKept K) := by
  refine cal_of D sc_kept_too (fun vs H Q E h => ?_) fun f cdv A outer s H vs Q E hr h => ?_
  · obtain ⟨a, s, own, rfl, _⟩ := h; rfl
  · refine ⟨_, (pss_one (ps_ret (pe_lc (own := [("chosen", 2)]) (g := gName 2) rfl sc_kept_too.nd (pi_range1 rfl B.range (by exact (pa_cons (pe_callB call_len_seq (by rfl) B.len (by decide +kernel) (by exact (pa_cons (pv 0) pa_nil))) pa_nil))) (blkOk_by (N := N_kept_too) (sc := defScope s_kept_too) (by decide +kernel)) (fun _ _ _ _ _ => by exact (pg_name (i := 2) sc_kept_too.nd rfl (Or.inl rfl))) (fun _ _ _ _ _ => by exact pts_nil) (fun _ _ _ _ _ => by exact (pe_op op_sub (pe_ix (ix_listK (K := K) rfl) (pv 0) (pv 2) (fun _ _ => rfl)) (pe_callTy call_int1 (by rfl) B.int (by decide +kernel) (by exact (pa_cons (pe_d c_is_within hr (by exact (pa_cons (pv 1) (pa_cons (pv 2) pa_nil)))) pa_nil)))))))), ?_⟩
    obtain ⟨a, s, own, rfl, h1, hn, k⟩ := h
    refine s_retL (el_to (el_lcR (fun _ => true) (fun i => .int (s.getD i 0 - (if isW own i = true then 1 else 0))) (ea_len (ev_var rfl) h1 (zs_len s)) (by omega) (fun _ => rfl) (fun i H1 e hi => et_yes)
      fun i H1 e hi _ => ev_op (ev_at (ex_l e h1) hi (ev_var rfl) (ev_var rfl)) (ev_cbs (as_v (ev_within (ev_var rfl) (ev_var rfl)) (as_nil fun _ _ => rc_intB _))) rv_I0) ?_) k
    rw [filter_true]
    unfold keptToo zs
    rw [List.map_map]; rfl
end
end Cw
namespace Cw
open PySem PySem.Spec PyProof.Rows L2 Evl
open Cm (keysM setN isW hasB roomSl goesIn keptToo isFreeB withoutPlace movedBy allSl freeOf goalsOf GoalsOk keysOf leastOf isProof proofsOf boundsOf coversOf)
/-! ### clients, whose takers are members -/
structure LOk (C : Addr) (H : Hp) (ks : List Nat) (L : List AC) : Prop where
  few : L.length ≤ 100
  at_ : ∀ x ∈ L, ClAt C H x.1 x.2
  tk : ∀ x ∈ L, ∀ k ∈ x.2.takers, k ∈ ks
  tl : ∀ x ∈ L, x.2.takers.length ≤ 100
theorem LOk.ext {C : Addr} {H H' : Hp} {ks : List Nat} {L : List AC} (h : LOk C H ks L) (e : Ex H H') : LOk C H' ks L := ⟨h.few, fun x hx => (h.at_ x hx).ext e, h.tk, h.tl⟩
theorem LOk.sub {C : Addr} {H : Hp} {ks : List Nat} {L M : List AC} (h : LOk C H ks L) (s : ∀ x ∈ M, x ∈ L) (l : M.length ≤ 100) : LOk C H ks M := ⟨l, fun x hx => h.at_ x (s x hx), fun x hx => h.tk x (s x hx), fun x hx => h.tl x (s x hx)⟩
/-! ### who is moved, as a fold -/
def mvStep (ks : List Nat) (st : List Int × List AC) (x : AC) : List Int × List AC :=
  if goesIn st.1 (setN ks x.2.takers) = true then (keptToo st.1 (setN ks x.2.takers), st.2 ++ [x]) else st
theorem movedBy_fold (ks : List Nat) : ∀ (l : List AC) (s : List Int) (M : List AC), movedBy ks Prod.snd s M l = (l.foldl (mvStep ks) (s, M)).2
  | [], _, _ => rfl
  | x :: l, s, M => by
    rw [List.foldl_cons]
    unfold movedBy mvStep
    split
    · exact movedBy_fold ks l _ _
    · exact movedBy_fold ks l _ _
def mvAt (ms : List Mem) (L : List AC) (i : Nat) : List Int × List AC := (L.take i).foldl (mvStep (keysM ms)) (roomSl ms, [])
theorem mvAt_succ (ms : List Mem) (L : List AC) {i : Nat} {x : AC} (h : L[i]? = some x) : mvAt ms L (i + 1) = mvStep (keysM ms) (mvAt ms L i) x := by
  obtain ⟨hi, rfl⟩ := List.getElem?_eq_some_iff.mp h
  unfold mvAt
  rw [List.take_succ_eq_append_getElem hi, List.foldl_append]; rfl
theorem kept_len (s : List Int) (own : Nat) : (keptToo s own).length = s.length := by unfold keptToo; simp
theorem mvStep_len (ks : List Nat) (st : List Int × List AC) (x : AC) : (mvStep ks st x).1.length = st.1.length := by
  unfold mvStep
  split
  · exact kept_len _ _
  · rfl
theorem fold_len (ks : List Nat) : ∀ (l : List AC) (st : List Int × List AC), (l.foldl (mvStep ks) st).1.length = st.1.length
  | [], _ => rfl
  | x :: l, st => by rw [List.foldl_cons, fold_len ks l, mvStep_len]
theorem fold_few (ks : List Nat) : ∀ (l : List AC) (st : List Int × List AC), (l.foldl (mvStep ks) st).2.length ≤ st.2.length + l.length
  | [], _ => Nat.le_refl _
  | x :: l, st => by
    rw [List.foldl_cons]
    refine Nat.le_trans (fold_few ks l _) ?_
    have : (mvStep ks st x).2.length ≤ st.2.length + 1 := by
      unfold mvStep
      split
      · simp
      · omega
    rw [List.length_cons]; omega
def movL (ms : List Mem) (L : List AC) : List AC := movedBy (keysM ms) Prod.snd (roomSl ms) [] L
theorem movL_eq (ms : List Mem) (L : List AC) : movL ms L = (mvAt ms L L.length).2 := by
  unfold movL mvAt
  rw [movedBy_fold, List.take_length]
theorem room_few {ms : List Mem} (h : ms.length ≤ 8) : (roomSl ms).length ≤ 256 := by
  rw [roomSl_len]; exact pow_le h
section
variable {P : Program} {w : World} {K : PySem.W.Frag} {mg : Str → Option Value} {base : Heap} {C : Addr}
/-! ### moved_among -/
def spMoved (K : PySem.W.Frag) (C : Addr) : Sp := fun vs H Q _ => ∃ (d a : Addr) (ms : List Mem) (L : List AC), vs = [.ref d, .ref a] ∧ RoomsAt H d ms ∧ SqL K H a (refs L) ∧ LOk C H (keysM ms) L ∧ RetL (refs (movL ms L)) H Q
theorem sl_moved {H : Hp} {d a : Addr} {ms : List Mem} {L : List AC} (R : RoomsAt H d ms) (h : SqL K H a (refs L)) (ok : LOk C H (keysM ms) L) : SpL (spMoved K C) [.ref d, .ref a] H (refs (movL ms L)) :=
  fun _ e _ q _ => ⟨d, a, ms, L, rfl, R.ext e, ex_l e h, ok.ext e, q⟩
abbrev s_moved_among : Stmt := top 22
abbrev N_moved_among : List Str := ["rooms", "clients", "members", "slacks", "found", "client", "own"]
abbrev P_moved_among : List Str := ["rooms", "clients"]
theorem sc_moved_among : FnScope N_moved_among P_moved_among (defScope s_moved_among) := ⟨rfl, rfl, rfl, by decide +kernel, rfl, by decide +kernel, by decide +kernel⟩

theorem refs_at {L : List AC} {i : Nat} {v : V} (h : (refs L)[i]? = some v) : ∃ x, L[i]? = some x ∧ v = .ref x.1 ∧ x ∈ L := by
  unfold refs at h
  rw [List.getElem?_map] at h
  cases q : L[i]? with
  | none => rw [q] at h; cases h
  | some x =>
    rw [q] at h
    exact ⟨x, rfl, (Option.some.inj h).symm, List.mem_of_getElem? q⟩
/-- set_of(members, client.takers) -/
theorem ev_own {σ : L2.St} {H : Hp} {ta tb : TE} {a p : Addr} {c : Cli} {ks : List Nat} {E : XK} (TC : ClsC K C) (ha : Ev ta σ H (.ref p)) (hp : SqL K H p (nats ks)) (hn : ks.length ≤ 1000) (hb : Ev tb σ H (.ref a)) (hc : ClAt C H a c) (hk : ∀ k ∈ c.takers, k ∈ ks) (hl : c.takers.length ≤ 100) :
    Ev (tCall (spSetOf K) [] E (tCons ta (tCons (tFld K tb "takers") tNil))) σ H (nV (setN ks c.takers)) := by
  obtain ⟨t, ht, ev⟩ := ev_takers TC hb hc
  exact ev_cal (as_v ha (as_v ev (as_nil fun H1 e => sv_set (ex_l e hp) (sq_of (e _ _ ht)) hn (by omega) hk)))
theorem keys_len {ms : List Mem} : (keysM ms).length = ms.length := Cm.klen
theorem ok_moved_among (TC : ClsC K C) (D : Dfn K mg "moved_among" s_moved_among P_moved_among) (c_members_of : Cal P w K mg base 1 "members_of" spMembers) (c_room_slacks : Cal P w K mg base 2 "room_slacks" spRooms)
    (c_set_of : Cal P w K mg base 2 "set_of" (spSetOf K)) (c_goes_in : Cal P w K mg base 2 "goes_in" (spGoes K)) (c_kept_too : Cal P w K mg base 2 "kept_too" (spKept K)) :
    Cal P w K mg base 3 "moved_among" (spMoved K C) := by
  refine cal_of D sc_moved_among (fun vs H Q E h => ?_) fun f cdv A outer s H vs Q E hr h => ?_
  · obtain ⟨a, b, c, d, rfl, _⟩ := h; rfl
  · refine ⟨_, (pss_cons (ps_set (i := 2) sc_moved_among.nd rfl (Or.inl rfl) (pe_d c_members_of hr (by exact (pa_cons (pv 0) pa_nil))))
  (pss_cons (ps_set (i := 3) sc_moved_among.nd rfl (Or.inl rfl) (pe_d c_room_slacks hr (by exact (pa_cons (pv 0) pa_nil))))
  (pss_cons (ps_set (i := 4) sc_moved_among.nd rfl (Or.inl rfl) (pe_lst (by exact pa_nil)))
  (pss_cons (ps_for PassesOwn.never rfl (pi_list (pv 1)) (pg_name (i := 5) sc_moved_among.nd rfl (Or.inl rfl))
  (pss_cons (ps_set (i := 6) sc_moved_among.nd rfl (Or.inl rfl) (pe_d c_set_of hr (by exact (pa_cons (pv 2) (pa_cons (pe_fld (pv 5) rfl) pa_nil)))))
  (pss_one (ps_if (pt_val (pe_d c_goes_in hr (by exact (pa_cons (pv 3) (pa_cons (pv 6) pa_nil))))) (pss_cons (ps_expr (pe_bm PySem.F.plainAttrs_list PySem.F.slot_list_append PySem.F.type_list_append mt_append (pv 4) (by exact (pa_cons (pv 5) pa_nil))))
  (pss_one (ps_set (i := 3) sc_moved_among.nd rfl (Or.inl rfl) (pe_d c_kept_too hr (by exact (pa_cons (pv 3) (pa_cons (pv 6) pa_nil))))))) pss_nil))))
  (pss_one (ps_ret (pv 4))))))), ?_⟩
    obtain ⟨d, a, ms, L, rfl, R, hL, ok, k⟩ := h
    have h8 := R.few
    have hk8 : (keysM ms).length ≤ 1000 := by rw [keys_len]; omega
    refine q_asgL (el_cal (as_v (ev_var rfl) (as_nil fun H1 e => sl_members (R.ext e)))) fun p H1 hp e1 h1 => ?_
    refine q_asgL (el_cal (as_v (ev_var rfl) (as_nil fun H2 e => sl_rooms ((R.ext e1).ext e)))) fun q H2 hq e2 h2 => ?_
    refine q_asgL (el_lst ea_nil (by decide)) fun fl H3 hfl e3 h3 => ?_
    have ex02 := e1.trans e2
    have qne : q ≠ fl := ne_of_none h2 hfl
    refine q_forLn (ev_var rfl) (ex_l (ex02.trans e3) hL) (fun i σ' H' => ∃ (q : Addr) (v5 v6 : Option V), σ' = [some (.ref d), some (.ref a), some (.ref p), some (.ref q), some (.ref fl), v5, v6] ∧ Ex H2 H' ∧ H' fl = some (.lst (refs (mvAt ms L i).2)) ∧ q ≠ fl ∧ H' q = some (.lst (zs (mvAt ms L i).1)))
      (fun H4 e4 => ⟨q, none, none, rfl, e3.trans e4, e4 _ _ h3, qne, (e3.trans e4) _ _ h2⟩) (fun i σ' H' hi ⟨q, v5, v6, _, ex, _⟩ => ex_l (ex02.trans ex) hL) (fun i x σ' H' hx ⟨q, v5, v6, es, ex, hf, hne, hs⟩ => ?_) (fun σ' H' ⟨q, v5, v6, es, ex, hf, hne, hs⟩ => ?_)
    · subst es
      obtain ⟨y, hy, rfl, hyL⟩ := refs_at hx
      have hsl : (mvAt ms L i).1.length ≤ 256 := by
        unfold mvAt
        rw [fold_len]; exact room_few h8
      have hfl2 : (mvAt ms L i).2.length ≤ 100 := by
        unfold mvAt
        refine Nat.le_trans (fold_few _ _ _) ?_
        have := List.length_take_le i L
        have := ok.few
        rw [List.length_take]; simp; omega
      have okH := ok.ext (ex02.trans ex)
      have hms := mvAt_succ ms L hy
      refine q_asg (ev_own TC (ev_var rfl) (sq_of ((e2.trans ex) _ _ h1)) hk8 (ev_var rfl) (okH.at_ y hyL) (ok.tk y hyL) (ok.tl y hyL)) fun H4 e4 => ?_
      refine s_when (et_B (ev_cal (as_v (ev_var rfl) (as_v (ev_var rfl) (as_nil fun H5 e5 => sv_goes _ (sq_of ((e4.trans e5) _ _ hs)) (by omega)))))) (fun hb H5 e5 => ?_) (fun hb H5 e5 => ?_)
      · refine q_app (xs := refs (mvAt ms L i).2) (v := .ref y.1) ((e4.trans e5) _ _ hf) (ev_var rfl) (ev_var rfl) (by rw [refs_len]; omega) fun H6 e6 => ?_
        have hq6 : upd H6 fl (.lst (refs (mvAt ms L i).2 ++ [.ref y.1])) q = some (.lst (zs (mvAt ms L i).1)) := by
          rw [upd_ne hne]; exact (((e4.trans e5).trans e6) _ _ hs)
        refine s_asgL (el_cal (as_v (ev_var rfl) (as_v (ev_var rfl) (as_nil fun H7 e7 => sl_kept _ (sq_of (e7 _ _ hq6)) (by omega))))) fun q' H7 hq' e7 h7 => ?_
        have hf7 : H7 fl = some (.lst (refs (mvAt ms L i).2 ++ [.ref y.1])) := e7 _ _ upd_same
        refine ⟨q', _, _, rfl, (Ex.mut (ex.trans ((e4.trans e5).trans e6)) (fresh_back (Ex.refl _) ?_)).trans e7, ?_, ?_, ?_⟩
        · exact hfl
        · rw [hms]; unfold mvStep; rw [if_pos hb]
          show H7 fl = some (.lst (refs ((mvAt ms L i).2 ++ [y])))
          unfold refs at hf7 ⊢
          rw [List.map_append]; exact hf7
        · exact (ne_of_none upd_same hq').symm
        · rw [hms]; unfold mvStep; rw [if_pos hb]; exact h7
      · have hb' : ¬ goesIn (mvAt ms L i).1 (setN (keysM ms) y.2.takers) = true := by rw [hb]; exact Bool.false_ne_true
        refine ⟨q, _, _, rfl, ex.trans (e4.trans e5), ?_, hne, ?_⟩
        · rw [hms]; unfold mvStep; rw [if_neg hb']; exact (e4.trans e5) _ _ hf
        · rw [hms]; unfold mvStep; rw [if_neg hb']; exact (e4.trans e5) _ _ hs
    · subst es
      rw [refs_len, ← movL_eq] at hf
      exact s_ret (ev_var rfl) fun H4 e4 => k fl H4 (fresh_back ex02 hfl) ((ex02.trans ex).trans e4) (e4 _ _ hf)
/-! ### all_slacks -/
def spAll (K : PySem.W.Frag) (C : Addr) : Sp := fun vs H Q _ => ∃ (d a : Addr) (ms : List Mem) (L : List AC), vs = [.ref d, .ref a] ∧ RoomsAt H d ms ∧ SqL K H a (refs L) ∧ LOk C H (keysM ms) L ∧ RetL (zs (allSl (keysM ms) (roomSl ms) (L.map Prod.snd))) H Q
theorem sl_all {H : Hp} {d a : Addr} {ms : List Mem} {L : List AC} (R : RoomsAt H d ms) (h : SqL K H a (refs L)) (ok : LOk C H (keysM ms) L) : SpL (spAll K C) [.ref d, .ref a] H (zs (allSl (keysM ms) (roomSl ms) (L.map Prod.snd))) :=
  fun _ e _ q _ => ⟨d, a, ms, L, rfl, R.ext e, ex_l e h, ok.ext e, q⟩
abbrev s_all_slacks : Stmt := top 24
abbrev N_all_slacks : List Str := ["rooms", "clients", "members", "slacks", "client"]
abbrev P_all_slacks : List Str := ["rooms", "clients"]
theorem sc_all_slacks : FnScope N_all_slacks P_all_slacks (defScope s_all_slacks) := ⟨rfl, rfl, rfl, by decide +kernel, rfl, by decide +kernel, by decide +kernel⟩

theorem allSl_take (ks : List Nat) (s : List Int) (L : List AC) {i : Nat} {x : AC} (h : L[i]? = some x) : allSl ks s ((L.take (i + 1)).map Prod.snd) = keptToo (allSl ks s ((L.take i).map Prod.snd)) (setN ks x.2.takers) := by
  obtain ⟨hi, rfl⟩ := List.getElem?_eq_some_iff.mp h
  unfold allSl
  rw [List.take_succ_eq_append_getElem hi, List.map_append, List.foldl_append]; rfl
theorem allSl_len (ks : List Nat) : ∀ (l : List Cli) (s : List Int), (allSl ks s l).length = s.length
  | [], _ => rfl
  | x :: l, s => by
    show (allSl ks (keptToo s _) l).length = _
    rw [allSl_len ks l, kept_len]
theorem ok_all_slacks (TC : ClsC K C) (D : Dfn K mg "all_slacks" s_all_slacks P_all_slacks) (c_members_of : Cal P w K mg base 1 "members_of" spMembers) (c_room_slacks : Cal P w K mg base 2 "room_slacks" spRooms)
    (c_set_of : Cal P w K mg base 2 "set_of" (spSetOf K)) (c_kept_too : Cal P w K mg base 2 "kept_too" (spKept K)) :
    Cal P w K mg base 3 "all_slacks" (spAll K C) := by
  refine cal_of D sc_all_slacks (fun vs H Q E h => ?_) fun f cdv A outer s H vs Q E hr h => ?_
  · obtain ⟨a, b, c, d, rfl, _⟩ := h; rfl
  · refine ⟨_, (pss_cons (ps_set (i := 2) sc_all_slacks.nd rfl (Or.inl rfl) (pe_d c_members_of hr (by exact (pa_cons (pv 0) pa_nil))))
  (pss_cons (ps_set (i := 3) sc_all_slacks.nd rfl (Or.inl rfl) (pe_d c_room_slacks hr (by exact (pa_cons (pv 0) pa_nil))))
  (pss_cons (ps_for PassesOwn.never rfl (pi_list (pv 1)) (pg_name (i := 4) sc_all_slacks.nd rfl (Or.inl rfl))
  (pss_one (ps_set (i := 3) sc_all_slacks.nd rfl (Or.inl rfl) (pe_d c_kept_too hr (by exact (pa_cons (pv 3) (pa_cons (pe_d c_set_of hr (by exact (pa_cons (pv 2) (pa_cons (pe_fld (pv 4) rfl) pa_nil)))) pa_nil)))))))
  (pss_one (ps_ret (pv 3)))))), ?_⟩
    obtain ⟨d, a, ms, L, rfl, R, hL, ok, k⟩ := h
    have h8 := R.few
    have hk8 : (keysM ms).length ≤ 1000 := by rw [keys_len]; omega
    refine q_asgL (el_cal (as_v (ev_var rfl) (as_nil fun H1 e => sl_members (R.ext e)))) fun p H1 hp e1 h1 => ?_
    refine q_asgL (el_cal (as_v (ev_var rfl) (as_nil fun H2 e => sl_rooms ((R.ext e1).ext e)))) fun q H2 hq e2 h2 => ?_
    refine q_forLn (ev_var rfl) (ex_l (e1.trans e2) hL) (fun i σ' H' => ∃ (q : Addr) (v4 : Option V), σ' = [some (.ref d), some (.ref a), some (.ref p), some (.ref q), v4] ∧ Ex H1 H' ∧ H1 q = none ∧ H' q = some (.lst (zs (allSl (keysM ms) (roomSl ms) ((L.take i).map Prod.snd)))))
      (fun H4 e4 => ⟨q, none, rfl, e2.trans e4, hq, e4 _ _ h2⟩) (fun i σ' H' hi ⟨q, v4, _, ex, _⟩ => ex_l (e1.trans ex) hL) (fun i x σ' H' hx ⟨q, v4, es, ex, hqn, hs⟩ => ?_) (fun σ' H' ⟨q, v4, es, ex, hqn, hs⟩ => ?_)
    · subst es
      obtain ⟨y, hy, rfl, hyL⟩ := refs_at hx
      have okH := ok.ext (e1.trans ex)
      refine s_asgL (el_cal (as_v (ev_var rfl) (as_v (ev_own TC (ev_var rfl) (sq_of (ex _ _ h1)) hk8 (ev_var rfl) (okH.at_ y hyL) (ok.tk y hyL) (ok.tl y hyL)) (as_nil fun H5 e5 => sl_kept _ (sq_of (e5 _ _ hs)) (by rw [allSl_len]; have := room_few h8; omega))))) fun q' H7 hq' e7 h7 => ?_
      refine ⟨q', _, rfl, ex.trans e7, fresh_back ex hq', ?_⟩
      rw [allSl_take _ _ _ hy]; exact h7
    · subst es
      rw [refs_len, List.take_length] at hs
      exact s_ret (ev_var rfl) fun H4 e4 => k q H4 (fresh_back e1 hqn) ((e1.trans ex).trans e4) (e4 _ _ hs)
/-! ### is_free, without_place -/
def spFree (K : PySem.W.Frag) : Sp := fun vs H Q _ => ∃ (a : Addr) (s : List Int) (own bit : Nat), vs = [.ref a, nV own, nV bit] ∧ SqL K H a (zs s) ∧ s.length ≤ 1000 ∧ RetV (.bl (isFreeB s own bit)) H Q
theorem sv_free {H : Hp} {a : Addr} {s : List Int} (own bit : Nat) (h : SqL K H a (zs s)) (hn : s.length ≤ 1000) : SpV (spFree K) [.ref a, nV own, nV bit] H (.bl (isFreeB s own bit)) := fun _ e _ q _ => ⟨a, s, own, bit, rfl, ex_l e h, hn, q⟩
abbrev s_is_free : Stmt := top 25
abbrev N_is_free : List Str := ["slacks", "own", "bit", "sets", "chosen"]
abbrev P_is_free : List Str := ["slacks", "own", "bit"]
theorem sc_is_free : FnScope N_is_free P_is_free (defScope s_is_free) := ⟨rfl, rfl, rfl, by decide +kernel, rfl, by decide +kernel, by decide +kernel⟩

theorem ok_is_free (D : Dfn K mg "is_free" s_is_free P_is_free) (B : Blt mg) (c_is_within : Cal P w K mg base 1 "is_within" spWithin) : Cal P w K mg base 2 "is_free" (spFree K) := by
  refine cal_of D sc_is_free (fun vs H Q E h => ?_) fun f cdv A outer s H vs Q E hr h => ?_
  · obtain ⟨a, s, own, bit, rfl, _⟩ := h; rfl
  · refine ⟨_, (pss_cons (ps_setLc (i := 3) (own := [("chosen", 4)]) (g := gName 4) rfl sc_is_free.nd rfl rfl (sw_true rfl rfl rfl (by decide +kernel)) (pi_range1 rfl B.range (by exact (pa_cons (pe_callB call_len_seq (by rfl) B.len (by decide +kernel) (by exact (pa_cons (pv 0) pa_nil))) pa_nil))) (blkOk_by (N := N_is_free) (sc := defScope s_is_free) (by decide +kernel)) (fun _ _ _ _ _ => by exact (pg_name (i := 4) sc_is_free.nd rfl (Or.inl rfl))) (fun _ _ _ _ _ => by exact (pts_one (PW.pt (pw_and (pt_cmpR op_ne (pe_op op_and (pv 4) (pv 2)) pe_int (nomark _)) (pw_and1 (pt_not (pt_val (pe_d c_is_within hr (by exact (pa_cons (pv 1) (pa_cons (pv 4) pa_nil))))))))))) (fun _ _ _ _ _ => by exact (pv 4)))
  (pss_one (ps_ret (pe_callB (cr_all rfl) (by rfl) B.all (by decide +kernel) (by exact (pa_cons (pe_lc (own := [("chosen", 4)]) (g := gName 4) rfl sc_is_free.nd (pi_list (pv 3)) (blkOk_by (N := N_is_free) (sc := defScope s_is_free) (by decide +kernel)) (fun _ _ _ _ _ => by exact (pg_name (i := 4) sc_is_free.nd rfl (Or.inl rfl))) (fun _ _ _ _ _ => by exact pts_nil) (fun _ _ _ _ _ => by exact (pe_cmpR op_gt (pe_ix (ix_listK (K := K) rfl) (pv 0) (pv 4) (fun _ _ => rfl)) pe_int (nomark _)))) pa_nil)))))), ?_⟩
    obtain ⟨a, s, own, bit, rfl, h1, hn, k⟩ := h
    refine q_asgL (el_lcR (fun i => hasB i bit && !isW own i) nV (ea_len (ev_var rfl) h1 (zs_len s)) (by omega) (fun _ => rfl) (fun i H1 e hi => et_and (et_test (ev_hasB (ev_var rfl) (ev_var rfl))) fun _ => et_not (et_B (ev_within (ev_var rfl) (ev_var rfl))))
      fun i H1 e hi _ => ev_var rfl) fun p H1 hp e1 h2 => ?_
    have hlen : ∀ x ∈ (List.range s.length).filter (fun i => hasB i bit && !isW own i), x < s.length := fun x hx => List.mem_range.mp (List.mem_filter.mp hx).1
    refine s_ret (ev_to (ev_allN (g := fun x => decide (0 < s.getD x 0)) (L := (List.range s.length).filter fun i => hasB i bit && !isW own i) ?_) ?_) fun H2 e2 => k H2 (e1.trans e2)
    · have := el_lcM (K := K) (σ := [some (.ref a), some (nV own), some (nV bit), some (.ref p), none]) (H := H1) (te := tOp (rI0 fun i j => .bl (decide (j < i))) (tOp (rIxL K) (tVar 0) (tVar 4)) (tC (.int 0))) (t := tYes) (j := 4) (vs := [4]) (a := p) (tl := tVar 3)
        ((List.range s.length).filter fun i => hasB i bit && !isW own i) nV (fun x => .bl (decide (0 < s.getD x 0))) (fun _ => true) (ev_var rfl) (sq_of h2) (by
          have := List.length_filter_le (fun i => hasB i bit && !isW own i) (List.range s.length)
          rw [List.length_range] at this; omega) (fun _ => rfl) (fun _ _ _ _ => et_yes) fun x hx H3 e3 _ => ev_op (ev_at (ex_l (e1.trans e3) h1) (hlen x hx) (ev_var rfl) (ev_var rfl)) ev_c rv_I0
      rw [filter_true] at this
      exact this
    · unfold isFreeB
      rw [List.all_filter]
def spWithout (K : PySem.W.Frag) : Sp := fun vs H Q _ => ∃ (a : Addr) (s : List Int) (own bit : Nat), vs = [.ref a, nV own, nV bit] ∧ SqL K H a (zs s) ∧ s.length ≤ 1000 ∧ RetL (zs (withoutPlace s own bit)) H Q
theorem sl_without {H : Hp} {a : Addr} {s : List Int} (own bit : Nat) (h : SqL K H a (zs s)) (hn : s.length ≤ 1000) : SpL (spWithout K) [.ref a, nV own, nV bit] H (zs (withoutPlace s own bit)) := fun _ e _ q _ => ⟨a, s, own, bit, rfl, ex_l e h, hn, q⟩
abbrev s_without_place : Stmt := top 26
abbrev N_without_place : List Str := ["slacks", "own", "bit", "found", "chosen"]
abbrev P_without_place : List Str := ["slacks", "own", "bit"]
theorem sc_without_place : FnScope N_without_place P_without_place (defScope s_without_place) := ⟨rfl, rfl, rfl, by decide +kernel, rfl, by decide +kernel, by decide +kernel⟩

theorem wp_range (s : List Int) (own bit i : Nat) : (List.range (i + 1)).map (fun x => s.getD x 0 + (if isW own x = true then 1 else 0) - (if hasB x bit = true then 1 else 0)) = (List.range i).map (fun x => s.getD x 0 + (if isW own x = true then 1 else 0) - (if hasB x bit = true then 1 else 0)) ++ [s.getD i 0 + (if isW own i = true then 1 else 0) - (if hasB i bit = true then 1 else 0)] := by
  rw [List.range_succ, List.map_append]; rfl
theorem ok_without_place (D : Dfn K mg "without_place" s_without_place P_without_place) (B : Blt mg) (c_is_within : Cal P w K mg base 1 "is_within" spWithin) : Cal P w K mg base 2 "without_place" (spWithout K) := by
  refine cal_of D sc_without_place (fun vs H Q E h => ?_) fun f cdv A outer s H vs Q E hr h => ?_
  · obtain ⟨a, s, own, bit, rfl, _⟩ := h; rfl
  · refine ⟨_, (pss_cons (ps_set (i := 3) sc_without_place.nd rfl (Or.inl rfl) (pe_lst (by exact pa_nil)))
  (pss_cons (ps_for PassesOwn.never rfl (pi_range1 rfl B.range (by exact (pa_cons (pe_callB call_len_seq (by rfl) B.len (by decide +kernel) (by exact (pa_cons (pv 0) pa_nil))) pa_nil))) (pg_name (i := 4) sc_without_place.nd rfl (Or.inl rfl))
  (pss_one (ps_expr (pe_bm PySem.F.plainAttrs_list PySem.F.slot_list_append PySem.F.type_list_append mt_append (pv 3) (by exact (pa_cons (pe_op op_sub (pe_op op_add (pe_ix ix_list (pv 0) (pv 4) (fun _ _ => rfl)) (pe_callTy call_int1 (by rfl) B.int (by decide +kernel) (by exact (pa_cons (pe_d c_is_within hr (by exact (pa_cons (pv 1) (pa_cons (pv 4) pa_nil)))) pa_nil)))) (pe_callTy call_int1 (by rfl) B.int (by decide +kernel) (by exact (pa_cons (pe_cmpR op_ne (pe_op op_and (pv 4) (pv 2)) pe_int (nomark _)) pa_nil)))) pa_nil))))))
  (pss_one (ps_ret (pv 3))))), ?_⟩
    obtain ⟨a, s, own, bit, rfl, h1, hn, k⟩ := h
    refine q_asgL (el_lst ea_nil (by decide)) fun fl H1 hfl e1 h2 => ?_
    refine q_forR1 (ea_len (ev_var rfl) (ex_l e1 h1) (zs_len s)) ⟨by omega, by omega⟩ (fun i σ' H' => ∃ (v4 : Option V), σ' = [some (.ref a), some (nV own), some (nV bit), some (.ref fl), v4] ∧ Ex H H' ∧ H' fl = some (.lst (zs ((List.range i).map fun x => s.getD x 0 + (if isW own x = true then 1 else 0) - (if hasB x bit = true then 1 else 0)))))
      (fun H2 e2 => ⟨none, rfl, e1.trans e2, e2 _ _ h2⟩) (fun i σ' H' hi ⟨v4, es, ex, hf⟩ => ?_) (fun σ' H' ⟨v4, es, ex, hf⟩ => ?_)
    · subst es
      refine s_app (xs := zs ((List.range i).map fun x => s.getD x 0 + (if isW own x = true then 1 else 0) - (if hasB x bit = true then 1 else 0))) (v := .int (s.getD i 0 + (if isW own i = true then 1 else 0) - (if hasB i bit = true then 1 else 0))) hf (ev_var rfl) ?_ ?_ fun H2 e2 => ?_
      · exact ev_op (ev_op (ev_at (ex_l ex h1) (by omega) (ev_var rfl) (ev_var rfl)) (ev_cbs (as_v (ev_within (ev_var rfl) (ev_var rfl)) (as_nil fun _ _ => rc_intB _))) rv_I0) (ev_cbs (as_v (ev_hasB (ev_var rfl) (ev_var rfl)) (as_nil fun _ _ => rc_intB _))) rv_I0
      · rw [zs_len, List.length_map, List.length_range]; omega
      · refine ⟨_, rfl, Ex.mut (ex.trans e2) hfl, ?_⟩
        rw [upd_same, wp_range]
        unfold zs; rw [List.map_append]; rfl
    · subst es
      rw [Int.toNat_natCast] at hf
      exact s_ret (ev_var rfl) fun H2 e2 => k fl H2 hfl (ex.trans e2) (e2 _ _ hf)
end
end Cw
namespace Cw
open PySem PySem.Spec PyProof.Rows L2 Evl
open Cm (keysM setN isW hasB roomSl goesIn keptToo isFreeB withoutPlace movedBy allSl freeOf goalsOf GoalsOk keysOf leastOf isProof proofsOf boundsOf coversOf)
/-! ### where they go, as a fold -/
def gStep (ks : List Nat) (st : List Int × List Nat) (c : Cli) : List Int × List Nat :=
  (withoutPlace st.1 (setN ks c.takers) (2 ^ ks.idxOf ((freeOf ks st.1 c).getD 0 0)), st.2 ++ [(freeOf ks st.1 c).getD 0 0])
theorem goals_fold (ks : List Nat) : ∀ (l : List Cli) (s : List Int) (g : List Nat), (l.foldl (gStep ks) (s, g)).2 = g ++ goalsOf ks s l
  | [], _, g => by simp [goalsOf]
  | c :: l, s, g => by
    rw [List.foldl_cons]
    show (l.foldl (gStep ks) (withoutPlace s _ _, g ++ [_])).2 = _
    rw [goals_fold ks l, List.append_assoc]; rfl
def gAt (ks : List Nat) (s : List Int) (l : List Cli) (i : Nat) : List Int × List Nat := (l.take i).foldl (gStep ks) (s, [])
theorem gAt_succ (ks : List Nat) (s : List Int) (l : List Cli) {i : Nat} {c : Cli} (h : l[i]? = some c) : gAt ks s l (i + 1) = gStep ks (gAt ks s l i) c := by
  obtain ⟨hi, rfl⟩ := List.getElem?_eq_some_iff.mp h
  unfold gAt
  rw [List.take_succ_eq_append_getElem hi, List.foldl_append]; rfl
theorem without_len (s : List Int) (own bit : Nat) : (withoutPlace s own bit).length = s.length := by unfold withoutPlace; simp
theorem gfold_len (ks : List Nat) : ∀ (l : List Cli) (st : List Int × List Nat), (l.foldl (gStep ks) st).1.length = st.1.length
  | [], _ => rfl
  | c :: l, st => by
    rw [List.foldl_cons, gfold_len ks l]
    exact without_len _ _ _
theorem gfold_few (ks : List Nat) : ∀ (l : List Cli) (st : List Int × List Nat), (l.foldl (gStep ks) st).2.length = st.2.length + l.length
  | [], _ => rfl
  | c :: l, st => by
    rw [List.foldl_cons, gfold_few ks l]
    show (st.2 ++ [_]).length + l.length = _
    simp; omega
theorem goalsOk_at (ks : List Nat) : ∀ (l : List Cli) (st : List Int × List Nat) (i : Nat) (c : Cli), GoalsOk ks st.1 l → l[i]? = some c → 0 < (freeOf ks ((l.take i).foldl (gStep ks) st).1 c).length
  | [], _, _, _, _, h => by simp at h
  | d :: l, st, 0, c, g, h => by
    obtain rfl : d = c := by simpa using h
    exact g.1
  | d :: l, st, i + 1, c, g, h => by
    rw [List.take_succ_cons, List.foldl_cons]
    exact goalsOk_at ks l (gStep ks st d) i c g.2 (by simpa using h)
theorem getD_mem {l : List Nat} (h : 0 < l.length) : l.getD 0 0 ∈ l := by
  cases l with
  | nil => cases h
  | cons a l => exact List.mem_cons_self
theorem inV_nats (k : Nat) (l : List Nat) : inV (nV k) (nats l) = decide (k ∈ l) := by
  unfold inV nats
  rw [List.any_map, Bool.eq_iff_iff, List.any_eq_true, decide_eq_true_iff]
  constructor
  · rintro ⟨y, hy, e⟩
    have e : eqV (.int (y : Int)) (.int (k : Int)) = true := e
    rw [eqV_int, decide_eq_true_iff] at e
    exact (Int.ofNat.inj e) ▸ hy
  · intro h
    refine ⟨k, h, ?_⟩
    show eqV (.int (k : Int)) (.int (k : Int)) = true
    rw [eqV_int]; simp
section
variable {P : Program} {w : World} {K : PySem.W.Frag} {mg : Str → Option Value} {base : Heap} {C : Addr}
theorem ev_inN {σ : L2.St} {H : Hp} {ta tb : TE} {a : Addr} {k : Nat} {l : List Nat} (ha : Ev ta σ H (nV k)) (hb : Ev tb σ H (.ref a)) (h : SqL K H a (nats l)) : Ev (tOp (rIn K false) ta tb) σ H (.bl (decide (k ∈ l))) := by
  rw [← inV_nats]
  exact ev_op ha hb (rv_isL h rfl (flat_nats l))
theorem ev_ninN {σ : L2.St} {H : Hp} {ta tb : TE} {a : Addr} {k : Nat} {l : List Nat} (ha : Ev ta σ H (nV k)) (hb : Ev tb σ H (.ref a)) (h : SqL K H a (nats l)) : Ev (tOp (rIn K true) ta tb) σ H (.bl (!decide (k ∈ l))) := by
  rw [← inV_nats]
  exact ev_op ha hb (rv_niL h rfl (flat_nats l))
/-- bit_of(members.index(key)) -/
theorem ev_bitix {σ : L2.St} {H : Hp} {to te : TE} {p : Addr} {ks : List Nat} {k : Nat} {E : XK} (ho : Ev to σ H (.ref p)) (hs : SqL K H p (nats ks)) (hn : ks.length ≤ 1000) (hk : k ∈ ks) (he : Ev te σ H (nV k)) :
    Ev (tCall spBit [] E (tCons (tBM K "list" (rIndex K) to (tCons te tNil)) tNil)) σ H (nV (2 ^ ks.idxOf k)) :=
  ev_cal (as_v (ev_index ho hs hk he) (as_nil fun H1 e => sv_bit (by have := List.idxOf_lt_length_of_mem hk; omega)))
/-! ### placing -/
def spPlacing (K : PySem.W.Frag) (C : Addr) : Sp := fun vs H Q _ => ∃ (d a : Addr) (ms : List Mem) (L : List AC), vs = [.ref d, .ref a] ∧ RoomsAt H d ms ∧ SqL K H a (refs L) ∧ LOk C H (keysM ms) L ∧
  GoalsOk (keysM ms) (allSl (keysM ms) (roomSl ms) (L.map Prod.snd)) (L.map Prod.snd) ∧ RetL (nats (goalsOf (keysM ms) (allSl (keysM ms) (roomSl ms) (L.map Prod.snd)) (L.map Prod.snd))) H Q
theorem sl_placing {H : Hp} {d a : Addr} {ms : List Mem} {L : List AC} (R : RoomsAt H d ms) (h : SqL K H a (refs L)) (ok : LOk C H (keysM ms) L) (g : GoalsOk (keysM ms) (allSl (keysM ms) (roomSl ms) (L.map Prod.snd)) (L.map Prod.snd)) :
    SpL (spPlacing K C) [.ref d, .ref a] H (nats (goalsOf (keysM ms) (allSl (keysM ms) (roomSl ms) (L.map Prod.snd)) (L.map Prod.snd))) :=
  fun _ e _ q _ => ⟨d, a, ms, L, rfl, R.ext e, ex_l e h, ok.ext e, g, q⟩
abbrev s_placing : Stmt := top 27
abbrev N_placing : List Str := ["rooms", "clients", "members", "slacks", "found", "client", "own", "free", "key"]
abbrev P_placing : List Str := ["rooms", "clients"]
theorem sc_placing : FnScope N_placing P_placing (defScope s_placing) := ⟨rfl, rfl, rfl, by decide +kernel, rfl, by decide +kernel, by decide +kernel⟩

theorem ok_placing (TC : ClsC K C) (D : Dfn K mg "placing" s_placing P_placing) (c_members_of : Cal P w K mg base 1 "members_of" spMembers) (c_all_slacks : Cal P w K mg base 3 "all_slacks" (spAll K C))
    (c_set_of : Cal P w K mg base 2 "set_of" (spSetOf K)) (c_is_free : Cal P w K mg base 2 "is_free" (spFree K)) (c_bit_of : Cal P w K mg base 1 "bit_of" spBit) (c_without_place : Cal P w K mg base 2 "without_place" (spWithout K)) :
    Cal P w K mg base 4 "placing" (spPlacing K C) := by
  refine cal_of D sc_placing (fun vs H Q E h => ?_) fun f cdv A outer s H vs Q E hr h => ?_
  · obtain ⟨a, b, c, d, rfl, _⟩ := h; rfl
  · refine ⟨_, (pss_cons (ps_set (i := 2) sc_placing.nd rfl (Or.inr rfl) (pe_d c_members_of hr (by exact (pa_cons (pv 0) pa_nil))))
  (pss_cons (ps_set (i := 3) sc_placing.nd rfl (Or.inr rfl) (pe_d c_all_slacks hr (by exact (pa_cons (pv 0) (pa_cons (pv 1) pa_nil)))))
  (pss_cons (ps_set (i := 4) sc_placing.nd rfl (Or.inl rfl) (pe_lst (by exact pa_nil)))
  (pss_cons (ps_for PassesOwn.never rfl (pi_list (pv 1)) (pg_name (i := 5) sc_placing.nd rfl (Or.inl rfl))
  (pss_cons (ps_set (i := 6) sc_placing.nd rfl (Or.inr rfl) (pe_d c_set_of hr (by exact (pa_cons (pv 2) (pa_cons (pe_fld (pv 5) rfl) pa_nil)))))
  (pss_cons (ps_setLc (i := 7) (own := [("key", 8)]) (g := gName 8) rfl sc_placing.nd rfl rfl (sw_true rfl rfl rfl (by decide +kernel)) (pi_list (pe_fld (pv 5) rfl)) (blkOk_by (N := N_placing) (sc := defScope s_placing) (by decide +kernel)) (fun _ _ _ _ _ => by exact (pg_name (i := 8) sc_placing.nd rfl (Or.inl rfl))) (fun _ _ _ _ _ => by exact (pts_one (pt_val (pe_d c_is_free hr (by exact (pa_cons (pv 3) (pa_cons (pv 6) (pa_cons (pe_d c_bit_of hr (by exact (pa_cons (pe_bmK (K := K) rfl PySem.F.plainAttrs_list PySem.F.slot_list_index PySem.F.type_list_index (mt_indexK (K := K) rfl) (pv 2) (by exact (pa_cons (pv 8) pa_nil))) pa_nil))) pa_nil)))))))) (fun _ _ _ _ _ => by exact (pv 8)))
  (pss_cons (ps_expr (pe_bm PySem.F.plainAttrs_list PySem.F.slot_list_append PySem.F.type_list_append mt_append (pv 4) (by exact (pa_cons (pe_ix ix_list (pv 7) pe_int (fun _ _ => rfl)) pa_nil))))
  (pss_one (ps_set (i := 3) sc_placing.nd rfl (Or.inr rfl) (pe_d c_without_place hr (by exact (pa_cons (pv 3) (pa_cons (pv 6) (pa_cons (pe_d c_bit_of hr (by exact (pa_cons (pe_bm PySem.F.plainAttrs_list PySem.F.slot_list_index PySem.F.type_list_index mt_index (pv 2) (by exact (pa_cons (pe_ix ix_list (pv 7) pe_int (fun _ _ => rfl)) pa_nil))) pa_nil))) pa_nil)))))))))))
  (pss_one (ps_ret (pv 4))))))), ?_⟩
    obtain ⟨d, a, ms, L, rfl, R, hL, ok, gok, k⟩ := h
    have h8 := R.few
    have hk8 : (keysM ms).length ≤ 1000 := by rw [keys_len]; omega
    refine q_asgL (el_cal (as_v (ev_var rfl) (as_nil fun H1 e => sl_members (R.ext e)))) fun p H1 hp e1 h1 => ?_
    refine q_asgL (el_cal (as_v (ev_var rfl) (as_v (ev_var rfl) (as_nil fun H2 e => sl_all (R.ext (e1.trans e)) (ex_l (e1.trans e) hL) (ok.ext (e1.trans e)))))) fun q H2 hq e2 h2 => ?_
    refine q_asgL (el_lst ea_nil (by decide)) fun fl H3 hfl e3 h3 => ?_
    have ex02 := e1.trans e2
    have qne : q ≠ fl := ne_of_none h2 hfl
    generalize hS : allSl (keysM ms) (roomSl ms) (L.map Prod.snd) = S at h2 gok k
    have hSl : S.length ≤ 256 := by rw [← hS, allSl_len]; exact room_few h8
    refine q_forLn (ev_var rfl) (ex_l (ex02.trans e3) hL) (fun i σ' H' => ∃ (q : Addr) (v5 v6 v7 v8 : Option V), σ' = [some (.ref d), some (.ref a), some (.ref p), some (.ref q), some (.ref fl), v5, v6, v7, v8] ∧ Ex H2 H' ∧ H' fl = some (.lst (nats (gAt (keysM ms) S (L.map Prod.snd) i).2)) ∧ q ≠ fl ∧ H' q = some (.lst (zs (gAt (keysM ms) S (L.map Prod.snd) i).1)))
      (fun H4 e4 => ⟨q, none, none, none, none, rfl, e3.trans e4, e4 _ _ h3, qne, (e3.trans e4) _ _ h2⟩) (fun i σ' H' hi ⟨q, v5, v6, v7, v8, _, ex, _⟩ => ex_l (ex02.trans ex) hL) (fun i x σ' H' hx ⟨q, v5, v6, v7, v8, es, ex, hf, hne, hs⟩ => ?_) (fun σ' H' ⟨q, v5, v6, v7, v8, es, ex, hf, hne, hs⟩ => ?_)
    · subst es
      obtain ⟨y, hy, rfl, hyL⟩ := refs_at hx
      have hyc : (L.map Prod.snd)[i]? = some y.2 := by rw [List.getElem?_map, hy]; rfl
      have hsl : (gAt (keysM ms) S (L.map Prod.snd) i).1.length ≤ 256 := by
        unfold gAt
        rw [gfold_len]; exact hSl
      have hfl2 : (gAt (keysM ms) S (L.map Prod.snd) i).2.length ≤ 100 := by
        unfold gAt
        rw [gfold_few, List.length_take, List.length_map]
        have := ok.few
        simp; omega
      have hpos : 0 < (freeOf (keysM ms) (gAt (keysM ms) S (L.map Prod.snd) i).1 y.2).length := goalsOk_at (keysM ms) (L.map Prod.snd) (S, []) i y.2 gok hyc
      have hgs := gAt_succ (keysM ms) S (L.map Prod.snd) hyc
      generalize gAt (keysM ms) S (L.map Prod.snd) i = st at hf hs hsl hfl2 hpos hgs
      have okH := ok.ext (ex02.trans ex)
      have hpH := (e2.trans ex) _ _ h1
      have htk := ok.tk y hyL
      have htl := ok.tl y hyL
      refine q_asg (ev_own TC (ev_var rfl) (sq_of hpH) hk8 (ev_var rfl) (okH.at_ y hyL) htk htl) fun H4 e4 => ?_
      obtain ⟨t, ht, evt⟩ := ev_takers (K := K) (te := tVar 5) (σ := [some (.ref d), some (.ref a), some (.ref p), some (.ref q), some (.ref fl), some (.ref y.1), some (nV (setN (keysM ms) y.2.takers)), v7, v8]) TC (ev_var rfl) ((okH.ext e4).at_ y hyL)
      have hfr : EvL (tLc (iList K (tFld K (tVar 5) "takers")) (gName 8) (tB (tCall (spFree K) [] E0 (tCons (tVar 3) (tCons (tVar 6) (tCons (tCall spBit [] E0 (tCons (tBM K "list" (rIndex K) (tVar 2) (tCons (tVar 8) tNil)) tNil)) tNil))))) (tVar 8) [8])
          [some (.ref d), some (.ref a), some (.ref p), some (.ref q), some (.ref fl), some (.ref y.1), some (nV (setN (keysM ms) y.2.takers)), v7, v8] H4 (nats (freeOf (keysM ms) st.1 y.2)) :=
        el_lcM y.2.takers nV nV (fun k => isFreeB st.1 (setN (keysM ms) y.2.takers) (2 ^ (keysM ms).idxOf k)) evt (sq_of ht) (by omega) (fun _ => rfl)
          (fun x hx H5 e5 => et_B (ev_cal (as_v (ev_var rfl) (as_v (ev_var rfl) (as_v (ev_bitix (ev_var rfl) (sq_of ((e4.trans e5) _ _ hpH)) hk8 (htk x hx) (ev_var rfl)) (as_nil fun H6 e6 => sv_free _ _ (sq_of (((e4.trans e5).trans e6) _ _ hs)) (by omega)))))))
          fun x hx H5 e5 _ => ev_var rfl
      refine q_asgL hfr fun r H5 hr5 e5 h5 => ?_
      have hfm := getD_mem hpos
      have hfk : (freeOf (keysM ms) st.1 y.2).getD 0 0 ∈ keysM ms := htk _ (List.mem_filter.mp hfm).1
      have ev0 : ∀ {σ : L2.St} {H' : Hp} {ta : TE}, Ev ta σ H' (.ref r) → H' r = some (.lst (nats (freeOf (keysM ms) st.1 y.2))) → Ev (tOp (rIxL K) ta (tC (.int 0))) σ H' (nV ((freeOf (keysM ms) st.1 y.2).getD 0 0)) := fun h hh => ev_op h ev_c (rv_ixL (sq_of hh) (at_nats (i := 0) hpos))
      refine q_app (xs := nats st.2) (v := nV ((freeOf (keysM ms) st.1 y.2).getD 0 0)) ((e4.trans e5) _ _ hf) (ev_var rfl) (ev0 (ev_var rfl) h5) (by rw [nats_len]; omega) fun H6 e6 => ?_
      have rne : r ≠ fl := (ne_of_none (e4 _ _ hf) hr5).symm
      have pne : p ≠ fl := ne_of_none (e2 _ _ h1) hfl
      have hq6 : upd H6 fl (.lst (nats st.2 ++ [nV ((freeOf (keysM ms) st.1 y.2).getD 0 0)])) q = some (.lst (zs st.1)) := by rw [upd_ne hne]; exact (((e4.trans e5).trans e6) _ _ hs)
      have hr6 : upd H6 fl (.lst (nats st.2 ++ [nV ((freeOf (keysM ms) st.1 y.2).getD 0 0)])) r = some (.lst (nats (freeOf (keysM ms) st.1 y.2))) := by rw [upd_ne rne]; exact e6 _ _ h5
      have hp6 : upd H6 fl (.lst (nats st.2 ++ [nV ((freeOf (keysM ms) st.1 y.2).getD 0 0)])) p = some (.lst (nats (keysM ms))) := by rw [upd_ne pne]; exact ((e4.trans e5).trans e6) _ _ hpH
      refine s_asgL (el_cal (as_v (ev_var rfl) (as_v (ev_var rfl) (as_v (ev_bitix (ev_var rfl) (sq_of hp6) hk8 hfk (ev0 (ev_var rfl) hr6)) (as_nil fun H7 e7 => sl_without _ _ (sq_of (e7 _ _ hq6)) (by omega)))))) fun q' H7 hq' e7 h7 => ?_
      have hf7 : H7 fl = some (.lst (nats st.2 ++ [nV ((freeOf (keysM ms) st.1 y.2).getD 0 0)])) := e7 _ _ upd_same
      refine ⟨q', _, _, _, _, rfl, (Ex.mut (ex.trans ((e4.trans e5).trans e6)) hfl).trans e7, ?_, (ne_of_none upd_same hq').symm, ?_⟩
      · rw [hgs]
        show H7 fl = some (.lst (nats (st.2 ++ [_])))
        unfold nats at hf7 ⊢
        rw [List.map_append]; exact hf7
      · rw [hgs]; exact h7
    · subst es
      rw [refs_len] at hf
      have e : (gAt (keysM ms) S (L.map Prod.snd) L.length).2 = goalsOf (keysM ms) S (L.map Prod.snd) := by
        unfold gAt
        rw [List.take_of_length_le (by rw [List.length_map]; exact Nat.le_refl _), goals_fold]; rfl
      rw [e] at hf
      exact s_ret (ev_var rfl) fun H4 e4 => k fl H4 (fresh_back ex02 hfl) ((ex02.trans ex).trans e4) (e4 _ _ hf)
/-! ### may_go -/
def spMayGo (K : PySem.W.Frag) (C : Addr) : Sp := fun vs H Q _ => ∃ (d a x : Addr) (ms : List Mem) (L : List AC) (c : Cli) (m : Nat), vs = [.ref d, .ref a, .ref x, nV m] ∧ RoomsAt H d ms ∧ SqL K H a (refs L) ∧ LOk C H (keysM ms) L ∧ LOk C H (keysM ms) [(x, c)] ∧
  RetV (.bl (decide (m ∈ c.takers) && isFreeB (allSl (keysM ms) (roomSl ms) (L.map Prod.snd)) (setN (keysM ms) c.takers) (2 ^ (keysM ms).idxOf m))) H Q
theorem sv_mayGo {H : Hp} {d a x : Addr} {ms : List Mem} {L : List AC} {c : Cli} {m : Nat} (R : RoomsAt H d ms) (h : SqL K H a (refs L)) (ok : LOk C H (keysM ms) L) (ok1 : LOk C H (keysM ms) [(x, c)]) :
    SpV (spMayGo K C) [.ref d, .ref a, .ref x, nV m] H (.bl (decide (m ∈ c.takers) && isFreeB (allSl (keysM ms) (roomSl ms) (L.map Prod.snd)) (setN (keysM ms) c.takers) (2 ^ (keysM ms).idxOf m))) :=
  fun _ e _ q _ => ⟨d, a, x, ms, L, c, m, rfl, R.ext e, ex_l e h, ok.ext e, ok1.ext e, q⟩
abbrev s_may_go : Stmt := top 28
abbrev N_may_go : List Str := ["rooms", "clients", "client", "key", "members", "own"]
abbrev P_may_go : List Str := ["rooms", "clients", "client", "key"]
theorem sc_may_go : FnScope N_may_go P_may_go (defScope s_may_go) := ⟨rfl, rfl, rfl, by decide +kernel, rfl, by decide +kernel, by decide +kernel⟩

theorem ok_may_go (TC : ClsC K C) (D : Dfn K mg "may_go" s_may_go P_may_go) (c_members_of : Cal P w K mg base 1 "members_of" spMembers) (c_all_slacks : Cal P w K mg base 3 "all_slacks" (spAll K C))
    (c_set_of : Cal P w K mg base 2 "set_of" (spSetOf K)) (c_is_free : Cal P w K mg base 2 "is_free" (spFree K)) (c_bit_of : Cal P w K mg base 1 "bit_of" spBit) :
    Cal P w K mg base 4 "may_go" (spMayGo K C) := by
  refine cal_of D sc_may_go (fun vs H Q E h => ?_) fun f cdv A outer s H vs Q E hr h => ?_
  · obtain ⟨a, b, c, d, e, g, i, rfl, _⟩ := h; rfl
  · refine ⟨_, (pss_cons (ps_set (i := 4) sc_may_go.nd rfl (Or.inl rfl) (pe_d c_members_of hr (by exact (pa_cons (pv 0) pa_nil))))
  (pss_cons (ps_set (i := 5) sc_may_go.nd rfl (Or.inl rfl) (pe_d c_set_of hr (by exact (pa_cons (pv 4) (pa_cons (pe_fld (pv 2) rfl) pa_nil)))))
  (pss_one (ps_ret (pe_and (pe_cmpR op_in_seq (pv 3) (pe_fld (pv 2) rfl) (by rfl)) (pe_one (pe_d c_is_free hr (by exact (pa_cons (pe_d c_all_slacks hr (by exact (pa_cons (pv 0) (pa_cons (pv 1) pa_nil)))) (pa_cons (pv 5) (pa_cons (pe_d c_bit_of hr (by exact (pa_cons (pe_bm PySem.F.plainAttrs_list PySem.F.slot_list_index PySem.F.type_list_index mt_index (pv 4) (by exact (pa_cons (pv 3) pa_nil))) pa_nil))) pa_nil))))))))))), ?_⟩
    obtain ⟨d, a, x, ms, L, c, m, rfl, R, hL, ok, ok1, k⟩ := h
    have h8 := R.few
    have hk8 : (keysM ms).length ≤ 1000 := by rw [keys_len]; omega
    have hc := ok1.at_ _ (List.mem_singleton.mpr rfl)
    have htk : ∀ k ∈ c.takers, k ∈ keysM ms := ok1.tk _ (List.mem_singleton.mpr rfl)
    have htl : c.takers.length ≤ 100 := ok1.tl _ (List.mem_singleton.mpr rfl)
    refine q_asgL (el_cal (as_v (ev_var rfl) (as_nil fun H1 e => sl_members (R.ext e)))) fun p H1 hp e1 h1 => ?_
    refine q_asg (ev_own TC (ev_var rfl) (sq_of h1) hk8 (ev_var rfl) (hc.ext e1) htk htl) fun H2 e2 => ?_
    obtain ⟨t, ht, evt⟩ := ev_takers (K := K) (te := tVar 2) (σ := [some (.ref d), some (.ref a), some (.ref x), some (nV m), some (.ref p), some (nV (setN (keysM ms) c.takers))]) TC (ev_var rfl) ((hc.ext e1).ext e2)
    refine s_ret (ev_andV (ev_inN (ev_var rfl) evt (sq_of ht)) fun hb => ?_) fun H3 e3 => k H3 ((e1.trans e2).trans e3)
    have hm : m ∈ keysM ms := htk m (of_decide_eq_true hb)
    exact ev_cal (as_L (el_cal (as_v (ev_var rfl) (as_v (ev_var rfl) (as_nil fun H4 e4 => sl_all (R.ext ((e1.trans e2).trans e4)) (ex_l ((e1.trans e2).trans e4) hL) (ok.ext ((e1.trans e2).trans e4)))))) fun q H5 e5 h5 =>
      as_v (ev_var rfl) (as_v (ev_bitix (ev_var rfl) (sq_of ((e2.trans e5) _ _ h1)) hk8 hm (ev_var rfl)) (as_nil fun H6 e6 => sv_free _ _ (sq_of (e6 _ _ h5)) (by rw [allSl_len]; have := room_few h8; omega))))
end
end Cw
namespace Cw
open PySem PySem.Spec PyProof.Rows L2 Evl
open Cm (keysM setN isW hasB roomSl goesIn keptToo isFreeB withoutPlace movedBy allSl freeOf goalsOf GoalsOk keysOf leastOf isProof proofsOf boundsOf coversOf)
/-! ### sorted(clients, key=place_in_order) -/
abbrev s_place_in_order : Stmt := top 3
abbrev N_place_in_order : List Str := ["client"]
abbrev P_place_in_order : List Str := ["client"]
theorem sc_place_in_order : FnScope N_place_in_order P_place_in_order (defScope s_place_in_order) := ⟨rfl, rfl, rfl, by decide +kernel, rfl, by decide +kernel, by decide +kernel⟩

def cLe (p q : AC) : Bool := decide ((p.2.order : Int) < (q.2.order : Int) ∨ ((p.2.order : Int) = (q.2.order : Int) ∧ (p.2.key : Int) ≤ (q.2.key : Int)))
def ordL (L : List AC) : List AC := L.mergeSort cLe
section
variable {prog : Program} {w : World} {A : Around} {s : Shared} {K : PySem.W.Frag}
theorem nm_local {M : Model} {name : Str} {scope : Scope} {L a : Addr} {cd : Value} {m : Str → Option Value} {x : Str} {pos : Pos} {v : Value} {Q : Value → Shared → Prop} {E : Value → Shared → Prop} (hn : s.heap.Ns L m) (hv : m x = some v) (h : Q v s)
    (hk : scope.kind = .function) (hl : (envOfC name scope L a cd).kindOf x = some .local) (hd : (x == ("__debug__" : Str)) = false) : wpAny M A (eval (.Name x pos) (envOfC name scope L a cd)) Q E s :=
  wpAny_Name (wpAny_loadName_local hk hl hn hv h) hd
/-- the key's call: a new tuple, all else as it was -/
theorem place_call {f : Addr} {fd : FuncData} {C a dx : Addr} {mA : Str → Option Value} {o k : Int} {t1 t2 : Tok} (F : Fun K "place_in_order" "place_in_order" s_place_in_order f fd) (TC : ClsC K C) (X : K.In s.heap) (hlim : s.heap.NoLimit) (hroom : A.depth < recursionLimit)
    (O : ObjM s.heap a dx C mA) (ho : mA "order" = some (.int o t1)) (hk : mA "key" = some (.int k t2)) :
    wpAny (model prog w) A (call (.ref f) [.ref a]) (PySem.W.KeyPure (.tuple [.int o, .int k]) s) (fun _ _ => False) s := by
  obtain ⟨oc, od, kV, doc, pm, an, cdv, ct, osl, rfl, lk, hcd⟩ := F.ex
  refine wpAny_call (Att.call_fn (binds := [("client", .ref a)]) X hlim lk hcd hroom (BindsTo.of_eq rfl) (by first | rfl | with_unfolding_all rfl | kernel_rfl) (fun s₁ IC => ?_) rfl rfl rfl)
  obtain ⟨h₁, tk₁, rfl⟩ := IC.toInCall.same
  have kp : ∀ b o, s.heap.get? b = some o → h₁.get? b = some o := IC.toInCall.keep
  have hn := IC.toInCall.ns
  have X₁ : K.In h₁ := X.keeps kp
  have O₁ : ObjM h₁ a dx C mA := ⟨kp _ _ O.obj, by
    obtain ⟨o, es, ep, q, r⟩ := O.ns
    exact ⟨o, es, ep, kp _ _ q, r⟩, O.ne⟩
  show wpAny _ _ (execs _ _) _ _ _
  refine wpAny_execs_cons (wpAny_Return_some (wpAny_Tuple_spliced ?_))
  refine Calls.spliced_cons (attr_of (by rfl) (nm_local hn (v := .ref a) (by first | rfl | with_unfolding_all rfl | kernel_rfl) ?_ rfl (by rfl) (by decide +kernel)))
  refine get_map X₁ O₁ (TC.cl.get _) TC.cl.hd TC.nO ho rfl ?_
  refine Calls.spliced_cons (attr_of (by rfl) (nm_local hn (v := .ref a) (by first | rfl | with_unfolding_all rfl | kernel_rfl) ?_ rfl (by rfl) (by decide +kernel)))
  refine get_map X₁ O₁ (TC.cl.get _) TC.cl.hd TC.nK hk rfl ?_
  refine Calls.spliced_nil ?_
  refine ⟨by show 2 ≤ sizeLine; rw [sizeLine_eq]; omega, ?_⟩
  refine ⟨_, _, rfl, fun b ob e => Heap.get?_push_of_some _ (kp b ob e), ?_⟩
  exact .tuple (Heap.get?_push_size _ rfl) rfl rfl (.cons (.int _ _) (.cons (.int _ _) .nil))
end
def kd (x : AC) : PyData := .tuple [.int (x.2.order : Int), .int (x.2.key : Int)]
theorem ordL_eq (L : List AC) : L.mergeSort (PySem.W.dataLe false kd) = ordL L := by
  have e := PySem.W.dataLe_ii (β := AC) (fun x => (x.2.order : Int)) (fun x => (x.2.key : Int))
  have e2 : PySem.W.dataLe false kd = cLe := e
  rw [e2]; rfl
theorem each_refs : ∀ {L : List AC} {vs : List Value}, Vals (refs L) vs → PySem.W.EachIs (fun v (x : AC) => v = Value.ref x.1) vs L
  | [], _, .nil => .nil
  | x :: L, _, .cons r t => .cons r (each_refs t)
theorem refs_each : ∀ {L : List AC} {vs : List Value}, PySem.W.EachIs (fun v (x : AC) => v = Value.ref x.1) vs L → Vals (refs L) vs
  | [], _, .nil => .nil
  | x :: L, _, .cons r t => .cons r (refs_each t)
def rSortedPl (K : PySem.W.Frag) (C f : Addr) : List V → List V → Hp → VK → Prop := fun vs zs H Q => ∃ (a : Addr) (L : List AC), vs = [V.ref a] ∧ zs = [V.ref f] ∧ SqL K H a (refs L) ∧ L.length ≤ 100 ∧ (∀ x ∈ L, ClAt C H x.1 x.2) ∧
  ∀ (p : Addr), H p = none → ∀ H', Ex H H' → H' p = some (.lst (refs (ordL L))) → Q (.ref p) H'
theorem cr_sortedPl {X : Cx} {f : Addr} {fd : FuncData} {C : Addr} {k : Nat} (F : Fun X.K "place_in_order" "place_in_order" s_place_in_order f fd) (TC : ClsC X.K C) (hr : Room k X.A) : CallRK X (.builtin "sorted") [Str.ofString "key"] (rSortedPl X.K C f) := by
  intro pins s σ H vs zs us ws Q I r rz h
  obtain ⟨a, L, rfl, rfl, hs, hn, hc, q⟩ := h
  obtain rfl := Vals.ref1 r
  obtain ⟨w1, rfl, e1⟩ := vals1 rz
  obtain rfl : w1 = Value.ref f := e1
  obtain ⟨its, rv, hl, hz⟩ := I.list hs
  have hb : L.length ≤ sizeLine := by rw [sizeLine_eq]; omega
  refine PySem.W.sorted_key_data (b := false) (R := fun v (x : AC) => v = Value.ref x.1) (bs := L) kd hl.isList (each_refs rv) ?_ ?_ hb ?_ (PyProof.Rows.ksk_s1 _ _) (fun _ => PyProof.Rows.ksk_l1 _ _) (fun x => PyProof.Rows.ksk_t1 f x) ?_ ?_
  · intro d hd d' hd'
    obtain ⟨x, _, rfl⟩ := List.mem_map.mp hd
    obtain ⟨y, _, rfl⟩ := List.mem_map.mp hd'
    simp [kd, PySem.W.alike, PySem.W.alikeAll]
  · left
    intro d hd
    obtain ⟨x, _, rfl⟩ := List.mem_map.mp hd
    exact ⟨_, _, rfl⟩
  · intro x _
    have : (kd x).depth ≤ 10 := by simp [kd, PyData.depth, PyData.depthAll]
    have := hr.un
    omega
  · intro v x hv hx h tk kp
    subst hv
    obtain ⟨dx, t, h1, h2⟩ := hc x hx
    obtain ⟨mA, O, rl, _⟩ := ins_get I.hok h1
    obtain ⟨u1, hu1, r1⟩ := RelO.some_of (v := nV x.2.order) (o := mA "order") (by rw [← cF_order x.2 t]; exact rl "order")
    obtain ⟨u2, hu2, r2⟩ := RelO.some_of (v := nV x.2.key) (o := mA "key") (by rw [← cF_key x.2 t]; exact rl "key")
    obtain ⟨t1, rfl⟩ := r1
    obtain ⟨t2, rfl⟩ := r2
    refine place_call (s := { s with heap := h, toks := tk }) F TC (I.kIn.keeps kp) (I.nolimit.keeps kp) ?_ (C := C) (dx := dx) (mA := mA) ⟨kp _ _ O.obj, ?_, O.ne⟩ hu1 hu2
    · have := hr.dp
      first | (show X.A.depth < recursionLimit; omega) | (show X.A.depth + 2 < recursionLimit; omega) | (simp only [Around.in1]; omega)
    · obtain ⟨o, es, ep, q, r⟩ := O.ns
      exact ⟨o, es, ep, kp _ _ q, r⟩
  · intro out c h' tk kp fr hD ho he
    rw [ordL_eq] at he
    have hlen : (refs (ordL L)).length ≤ sizeLine := by
      rw [refs_len]; unfold ordL; rw [List.length_mergeSort]; exact hb
    have hfree : H (s.heap.objs.size + 1) = none := I.hok.fresh (Nat.le_succ _)
    refine ⟨.ref _, upd H (s.heap.objs.size + 1) (.lst (refs (ordL L))), I.laid (t' := tk) kp (Nat.le_succ _) ⟨hlen, out, c, refs_each he, hD⟩, rfl, q _ hfree _ (Ex.new hfree) upd_same⟩
end Cw
namespace Cw
open PySem PySem.Spec PyProof.Rows L2 Evl
open Cm (keysM setN isW hasB roomSl goesIn keptToo isFreeB withoutPlace movedBy allSl freeOf goalsOf GoalsOk keysOf leastOf isProof proofsOf boundsOf coversOf)
/-! ### len(set(xs)) -/
def dedN (ns : List Int) : Nat := (PyProof.Rows.firstMet (fun i => ns.getD i 0) ns.length).length
def tLenSetD (K : PySem.W.Frag) (ta : TE) : TE := fun σ H Q => ta σ H fun x H1 => ∃ (l : Addr) (ns : List Int), x = V.ref l ∧ SqL K H1 l (ns.map V.int) ∧ ns.length < 64 ∧ Q (.int (dedN ns : Nat)) H1
theorem pe_lenSetD {X : Cx} {a : Expr} {ta : TE} {p p2 q pos : Pos} (hg : Gl X "len") (hm : X.mg "len" = none) (hg2 : Gl X "set") (hm2 : X.mg "set" = none) (ha : PE X a ta) (hc : X.calm = true := by rfl)
    (na : starEach [a] X.env = (false, eval a X.env) :: starEach [] X.env := by rfl) : PE X (.Call (.Name "len" p) [.Call (.Name "set" p2) [a] [] q] [] pos) (tLenSetD X.K ta) := by
  refine ⟨fun pins s σ H Q I h => Call_ (ld_blt I hg hm boot_len (PyProof.Rows.callWith_builtin1 (PyProof.Rows.args_cons (Call_ (ld_blt I hg2 hm2 (show bootBuiltins "set" = some (.type "set") by decide +kernel) ?_)) rfl) rfl rfl))⟩
  refine PyProof.Rows.callWith_type1 (PyProof.Rows.args_cons (thn (ha.run pins s σ H _ I h) fun v s1 ⟨x, H1, I1, r1, q1⟩ => PyProof.Rows.args_nil ?_) na) na rfl
  obtain ⟨l, ns, rfl, hq, hl, q1⟩ := q1
  cases r1
  obtain ⟨its, r, pl, hz⟩ := I1.list hq
  have hlen : its.toArray.size = ns.length := by rw [List.size_toArray, ← r.length, List.length_map]
  refine call_set_list (I1.ok.hd hc) pl.isList (by simpa using intsAre_of r) (by rw [hlen]; unfold scanBound; omega) fun h' tk hS hk => ?_
  refine PyProof.Rows.args_nil ?_
  rw [hlen] at hS
  have hle := PyProof.Rows.firstMet_length_le (fun i => ns.getD i 0) ns.length
  obtain ⟨o, es, ep, t, ho, hex, hd, _, _, _, hf, hn⟩ := hS
  have I2 : Inv X pins σ H1 { s1 with heap := h', toks := tk } := I1.kept fun b o e => hk b o (Heap.lt_size e) e
  exact call_len_set ho hex hd hf (by rw [hn]; omega) ⟨.int (dedN ns : Nat), H1, I2.tok _, ⟨_, by rw [hn]; rfl⟩, q1⟩
/-! ### clients.remove(client) -/
structure CmpK (K : PySem.W.Frag) (C : Addr) : Prop where
  ex : ∃ nm q N bs sn sub ab col dd k0 k1 k2 k3 k5 hd ni, K.lookup C = some (excClassObj nm q C N bs [.type "object"] hd sn sub ab col dd k0 k1 k2 k3 k5 ni) ∧ PySem.W.nsOkIn K N = true ∧ PySem.W.nsIn K N "__eq__" = some none ∧ PySem.W.nsIn K N "__ne__" = some none
theorem cmp_inst {K : PySem.W.Frag} {C a dx : Addr} {h : Heap} (T : CmpK K C) (X : K.In h) (ho : h.get? a = some (PySem.W.instObj C dx)) : h.CmpInst a C [.type "object"] := by
  obtain ⟨nm, q, N, bs, sn, sub, ab, col, dd, k0, k1, k2, k3, k5, hd, ni, l, ok, e1, e2⟩ := T.ex
  exact ⟨_, nm, q, N, bs, hd, sn, sub, ab, col, dd, k0, k1, k2, k3, k5, ni, h.nsMap N, ho, rfl, X _ _ l, .of_isNs (PySem.W.isNs_of_in X ok), PySem.W.nsMap_none_of_in X ok e1, PySem.W.nsMap_none_of_in X ok e2⟩
def rRemO (C : Addr) : V → List V → Hp → VK → Prop := fun x xs H Q => ∃ (l : Addr) (L : List AC) (y : AC) (j : Nat), x = .ref l ∧ xs = [.ref y.1] ∧ H l = some (.lst (refs L)) ∧ L.length ≤ 100 ∧ (∀ z ∈ L, ClAt C H z.1 z.2) ∧ L[j]? = some y ∧ (∀ (m : Nat) (z : AC), m < j → L[m]? = some z → z.1 ≠ y.1) ∧
  Q .non (upd H l (.lst (refs (L.eraseIdx j))))
theorem refs_erase : ∀ (L : List AC) (j : Nat), (refs L).eraseIdx j = refs (L.eraseIdx j)
  | [], j => by simp [refs]
  | a :: r, 0 => by simp [refs]
  | a :: r, j + 1 => by
    have ih := refs_erase r j
    unfold refs at ih ⊢
    simp [ih]
theorem mt_removeO {X : Cx} {C : Addr} {k : Nat} (T : CmpK X.K C) (hr : Room k X.A) : MtM X "list.remove" (rRemO C) := by
  intro pins s σ H x xs v us Q I rx rxs h
  obtain ⟨l, L, y, j, rfl, rfl, hH, hn, hc, hj, hno, q⟩ := h
  cases rx
  obtain ⟨u, rfl, ru⟩ := rxs.one
  obtain rfl : u = Value.ref y.1 := ru
  obtain ⟨z, its, n, r, hl, e⟩ := I.lstM hH
  rw [refs_len] at hl z
  have hjn : j < L.length := (List.getElem?_eq_some_iff.mp hj).1
  have hjl : j < its.toArray.size := by rw [List.size_toArray]; omega
  have hit : ∀ (m : Nat) (w : AC), L[m]? = some w → its[m]? = some (.ref w.1) := fun m w hw => by
    have hx : (refs L)[m]? = some (.ref w.1) := by unfold refs; rw [List.getElem?_map, hw]; rfl
    obtain ⟨u, hu, ru⟩ := r.get hx
    obtain rfl : u = Value.ref w.1 := ru
    exact hu
  have hub : X.A.units < cLine := by have := hr.un; omega
  have inst : ∀ w ∈ L, ∃ dx, s.heap.get? w.1 = some (PySem.W.instObj C dx) := fun w hw => by
    obtain ⟨dx, t, h1, _⟩ := hc w hw
    obtain ⟨mA, O, _⟩ := ins_get I.hok h1
    exact ⟨dx, O.obj⟩
  have heq : ∀ v ∈ its.toArray, SeqAt.EqAt X.A.in1 s v (.ref y.1) (v == Value.ref y.1) := fun v hv => by
    have hv' : v ∈ its := by simpa using hv
    obtain ⟨m, hm⟩ := List.mem_iff_getElem?.mp hv'
    have hml : m < L.length := by have := (List.getElem?_eq_some_iff.mp hm).1; omega
    have hw := hit m L[m] (List.getElem?_eq_getElem hml)
    rw [hm] at hw
    obtain rfl := Option.some.inj hw
    by_cases hne : L[m].1 = y.1
    · rw [hne]
      have : (Value.ref y.1 == Value.ref y.1) = true := beq_self_eq_true _
      rw [this]; exact SeqAt.EqAt.same _
    · have : (Value.ref L[m].1 == Value.ref y.1) = false := beq_eq_false_iff_ne.mpr fun z => hne (by injection z)
      rw [this]
      obtain ⟨d1, o1⟩ := inst _ (List.getElem_mem hml)
      obtain ⟨d2, o2⟩ := inst y (List.mem_of_getElem? hj)
      refine SeqAt.EqAt.of_refs hne fun prog w E Q hq => ?_
      obtain ⟨hh, g, d, tk, os⟩ := s
      exact richCompare_eq_other PySem.F.cmp_object PySem.F.cmp_object (cmp_inst T I.kIn o1) (cmp_inst T I.kIn o2) hne (by
        first | exact hub | (show X.A.units + 1 < cLine; have := hr.un; omega) | (show X.A.units + 2 < cLine; have := hr.un; omega)) hq
  have hyes : (its.toArray[j] == Value.ref y.1) = true := by
    obtain ⟨h1, h2⟩ := List.getElem?_eq_some_iff.mp (hit j y hj)
    have e1 : its.toArray[j] = .ref y.1 := by simpa using h2
    rw [e1]; exact beq_self_eq_true _
  have hnone : ∀ m (hm : m < its.toArray.size), m < j → (its.toArray[m] == Value.ref y.1) = false := fun m hm hmj => by
    have hml : m < L.length := by omega
    obtain ⟨h1, h2⟩ := List.getElem?_eq_some_iff.mp (hit m L[m] (List.getElem?_eq_getElem hml))
    have e1 : its.toArray[m] = .ref L[m].1 := by simpa using h2
    rw [e1]
    exact beq_eq_false_iff_ne.mpr fun z => hno m L[m] hmj (List.getElem?_eq_getElem hml) (by injection z)
  refine call_meets PySem.F.slot_list_remove ⟨_, e, rfl⟩ PySem.F.entry_list_remove (PySem.F.args_list_remove_2 _ _)
    (SeqAt.list_removeAt l its.toArray n none #[] (.ref y.1) (fun v => v == Value.ref y.1) j hjl hyes hnone (by rw [List.size_toArray]; omega)) ⟨e, heq, ?_⟩
  have rr := r.eraseIdx j
  rw [refs_erase] at rr
  refine ⟨.non, _, I.lset (its' := its.eraseIdx j) (t' := s.toks) hH e ?_ rr ?_, rfl, q⟩
  · show its.toArray.eraseIdxIfInBounds j = (its.eraseIdx j).toArray
    rw [List.eraseIdxIfInBounds_toArray]
  · have : (L.eraseIdx j).length ≤ L.length := by rw [List.length_eraseIdx]; split <;> omega
    rw [refs_len]; omega
/-! ### xs[::2], xs[1::2] -/
def evens {α : Type} : List α → List α
  | a :: _ :: l => a :: evens l
  | [a] => [a]
  | [] => []
def odds {α : Type} : List α → List α
  | _ :: b :: l => b :: odds l
  | _ => []
theorem evens_pick {α : Type} : ∀ (l : List α), ((List.range ((l.length + 1) / 2)).map fun k => 2 * k).filterMap (fun i => l[i]?) = evens l
  | [] => by simp [evens, odds]
  | [a] => by simp [evens]
  | a :: b :: l => by
    have e : ((a :: b :: l).length + 1) / 2 = (l.length + 1) / 2 + 1 := by rw [List.length_cons, List.length_cons]; omega
    rw [e, List.range_succ_eq_map, List.map_cons, List.filterMap_cons]
    show a :: _ = a :: _
    congr 1
    rw [← evens_pick l, List.map_map, List.filterMap_map, List.filterMap_map]
    rfl
theorem odds_pick {α : Type} : ∀ (l : List α), ((List.range (l.length / 2)).map fun k => 2 * k + 1).filterMap (fun i => l[i]?) = odds l
  | [] => by simp [evens, odds]
  | [a] => by simp [odds]
  | a :: b :: l => by
    have e : (a :: b :: l).length / 2 = l.length / 2 + 1 := by rw [List.length_cons, List.length_cons]; omega
    rw [e, List.range_succ_eq_map, List.map_cons, List.filterMap_cons]
    show b :: _ = b :: _
    congr 1
    rw [← odds_pick l, List.map_map, List.filterMap_map, List.filterMap_map]
    rfl
theorem range0 (n : Nat) : sliceRange (sliceBounds none none (some 2) n).1 (sliceBounds none none (some 2) n).2.1 (sliceBounds none none (some 2) n).2.2 = (List.range ((n + 1) / 2)).map fun k => 2 * k := by
  show sliceRange 0 (n : Int) 2 = _
  unfold sliceRange
  dsimp only
  have h : (if (2 : Int) > 0 then (if (0 : Int) < n then ((n : Int) - 0 + 2 - 1) / 2 else 0) else (if (0 : Int) > n then ((0 : Int) - n - 2 - 1) / (-2) else 0)).toNat = (n + 1) / 2 := by
    rw [if_pos (by decide)]
    split <;> omega
  rw [h]
  refine List.map_congr_left fun k _ => ?_
  omega
theorem range1 (n : Nat) : sliceRange (sliceBounds (some 1) none (some 2) n).1 (sliceBounds (some 1) none (some 2) n).2.1 (sliceBounds (some 1) none (some 2) n).2.2 = (List.range (n / 2)).map fun k => 2 * k + 1 := by
  show sliceRange (max 0 (min 1 (n : Int))) (n : Int) 2 = _
  unfold sliceRange
  dsimp only
  have h : (if (2 : Int) > 0 then (if max 0 (min 1 (n : Int)) < n then ((n : Int) - max 0 (min 1 (n : Int)) + 2 - 1) / 2 else 0) else (if max 0 (min 1 (n : Int)) > n then (max 0 (min 1 (n : Int)) - n - 2 - 1) / (-2) else 0)).toNat = n / 2 := by
    rw [if_pos (by decide)]
    split <;> omega
  rw [h]
  refine List.map_congr_left fun k hk => ?_
  have := List.mem_range.mp hk
  omega
theorem vals_pick {xs : List V} {its : List Value} (r : Vals xs its) : ∀ ix : List Nat, Vals (ix.filterMap fun i => xs[i]?) (ix.filterMap fun i => its.toArray[i]?)
  | [] => .nil
  | i :: ix => by
    rw [List.filterMap_cons, List.filterMap_cons]
    cases q : xs[i]? with
    | none =>
      have q2 : its.toArray[i]? = none := by
        have := r.none_of q
        simpa using this
      rw [q2]; exact vals_pick r ix
    | some x =>
      obtain ⟨u, hu, ru⟩ := r.get q
      have q2 : its.toArray[i]? = some u := by simpa using hu
      rw [q2]; exact .cons ru (vals_pick r ix)
def tStep (K : PySem.W.Frag) (g : List V → List V) (te : TE) : TE := fun σ H Q => te σ H fun x H1 => ∃ a xs, x = .ref a ∧ SqL K H1 a xs ∧ (g xs).length ≤ sizeLine ∧ ∀ p, H1 p = none → Q (.ref p) (upd H1 p (.lst (g xs)))
theorem pe_step0 {X : Cx} {e : Expr} {te : TE} {k : Nat} {p1 p3 pos : Pos} (he : PE X e te) : PE X (.Subscript e (.Slice none none (some (.Constant (.int 2) k p1)) p3) pos) (tStep X.K evens te) := by
  refine ⟨fun pins s σ H Q I h => ?_⟩
  refine Subscript_ (thn (he.run pins s σ H _ I h) fun v s1 ⟨x, H1, I1, r1, q1⟩ => ?_)
  obtain ⟨a, xs, ex, hx, hg, q⟩ := q1
  subst ex
  cases r1
  have hst : PO X (some (.Constant (.int 2) k p1)) (tPart (tC (.int 2))) := po_some pe_int
  refine wpAny_Slice (thn (po_none.run pins s1 σ H1 (fun o H2 => o = none ∧ H2 = H1) I1 ⟨rfl, rfl⟩) fun vl s2 ⟨l, H2, I2, pl, el, e2⟩ => ?_)
  subst el e2
  refine thn (po_none.run pins s2 σ H2 (fun o H3 => o = none ∧ H3 = H2) I2 ⟨rfl, rfl⟩) fun vu s3 ⟨u, H3, I3, pu, eu, e3⟩ => ?_
  subst eu e3
  refine thn (hst.run pins s3 σ H3 (fun o H4 => o = some 2 ∧ H4 = H3) I3 ⟨2, rfl, rfl, rfl⟩) fun vs s4 ⟨o, H4, I4, ps, eo, e4⟩ => ?_
  subst eo e4
  have I5 : Inv X pins σ H4 { s4 with heap := s4.heap.push { cls := .type "slice", data := .fields #[vl, vu, vs] } } := I4.kept (t' := s4.toks) fun b ob q => Heap.get?_push_of_some _ q
  obtain ⟨its, r, ht, hz⟩ := I5.list hx
  have hlen := r.length
  show wpAny (model X.prog X.w) X.A (subscriptTail e (.Slice none none (some (.Constant (.int 2) k p1)) p3) (.ref a) (.ref s4.heap.objs.size)) (EP X pins σ Q) X.xe { s4 with heap := s4.heap.push { cls := .type "slice", data := .fields #[vl, vu, vs] } }
  refine tail_any (ops := [.ref a, .ref s4.heap.objs.size]) ht.isList.typeIs (PySem.slot_list_getitem.lookup) ?_ (by with_unfolding_all rfl)
  refine wpAny_getItem_list_slice ht.isList (Heap.IsSliceOf.new _ vl vu vs) pl pu ps (by decide) ?_ (by rw [List.size_toArray]; omega)
  have hp : slicePick its.toArray none none (some 2) = (((List.range ((xs.length + 1) / 2)).map fun k => 2 * k).filterMap fun i => its.toArray[i]?).toArray := by
    unfold slicePick
    rw [List.size_toArray, ← hlen, range0]
  rw [hp]
  have rv := vals_pick r ((List.range ((xs.length + 1) / 2)).map fun k => 2 * k)
  rw [evens_pick] at rv
  refine ⟨.ref _, _, I5.laid (t' := s4.toks) (o := .lst (evens xs)) (fun b ob q => Heap.get?_push_of_some _ q) (Nat.le_refl _) ?_, rfl, q _ (I5.hok.fresh (Nat.le_refl _))⟩
  exact ⟨hg, _, 0, rv, Heap.get?_push_size _ rfl⟩
theorem pe_step1 {X : Cx} {e : Expr} {te : TE} {k k2 : Nat} {p1 p2 p3 pos : Pos} (he : PE X e te) : PE X (.Subscript e (.Slice (some (.Constant (.int 1) k2 p2)) none (some (.Constant (.int 2) k p1)) p3) pos) (tStep X.K odds te) := by
  refine ⟨fun pins s σ H Q I h => ?_⟩
  refine Subscript_ (thn (he.run pins s σ H _ I h) fun v s1 ⟨x, H1, I1, r1, q1⟩ => ?_)
  obtain ⟨a, xs, ex, hx, hg, q⟩ := q1
  subst ex
  cases r1
  have hst : PO X (some (.Constant (.int 2) k p1)) (tPart (tC (.int 2))) := po_some pe_int
  have hlo : PO X (some (.Constant (.int 1) k2 p2)) (tPart (tC (.int 1))) := po_some pe_int
  refine wpAny_Slice (thn (hlo.run pins s1 σ H1 (fun o H2 => o = some 1 ∧ H2 = H1) I1 ⟨1, rfl, rfl, rfl⟩) fun vl s2 ⟨l, H2, I2, pl, el, e2⟩ => ?_)
  subst el e2
  refine thn (po_none.run pins s2 σ H2 (fun o H3 => o = none ∧ H3 = H2) I2 ⟨rfl, rfl⟩) fun vu s3 ⟨u, H3, I3, pu, eu, e3⟩ => ?_
  subst eu e3
  refine thn (hst.run pins s3 σ H3 (fun o H4 => o = some 2 ∧ H4 = H3) I3 ⟨2, rfl, rfl, rfl⟩) fun vs s4 ⟨o, H4, I4, ps, eo, e4⟩ => ?_
  subst eo e4
  have I5 : Inv X pins σ H4 { s4 with heap := s4.heap.push { cls := .type "slice", data := .fields #[vl, vu, vs] } } := I4.kept (t' := s4.toks) fun b ob q => Heap.get?_push_of_some _ q
  obtain ⟨its, r, ht, hz⟩ := I5.list hx
  have hlen := r.length
  show wpAny (model X.prog X.w) X.A (subscriptTail e (.Slice (some (.Constant (.int 1) k2 p2)) none (some (.Constant (.int 2) k p1)) p3) (.ref a) (.ref s4.heap.objs.size)) (EP X pins σ Q) X.xe { s4 with heap := s4.heap.push { cls := .type "slice", data := .fields #[vl, vu, vs] } }
  refine tail_any (ops := [.ref a, .ref s4.heap.objs.size]) ht.isList.typeIs (PySem.slot_list_getitem.lookup) ?_ (by with_unfolding_all rfl)
  refine wpAny_getItem_list_slice ht.isList (Heap.IsSliceOf.new _ vl vu vs) pl pu ps (by decide) ?_ (by rw [List.size_toArray]; omega)
  have hp : slicePick its.toArray (some 1) none (some 2) = (((List.range (xs.length / 2)).map fun k => 2 * k + 1).filterMap fun i => its.toArray[i]?).toArray := by
    unfold slicePick
    rw [List.size_toArray, ← hlen, range1]
  rw [hp]
  have rv := vals_pick r ((List.range (xs.length / 2)).map fun k => 2 * k + 1)
  rw [odds_pick] at rv
  refine ⟨.ref _, _, I5.laid (t' := s4.toks) (o := .lst (odds xs)) (fun b ob q => Heap.get?_push_of_some _ q) (Nat.le_refl _) ?_, rfl, q _ (I5.hok.fresh (Nat.le_refl _))⟩
  exact ⟨hg, _, 0, rv, Heap.get?_push_size _ rfl⟩
end Cw
namespace PySem
namespace RefX
open PySem.W PySem.Calls PyProof.Rows PySem.HandSPX
/-! ### the text of __init__ -/
def iA (p1 p2 : Pos) : Arguments := { posonlyargs := [], args := [{ arg := "self", annotation := none, pos := p1 }, { arg := "number", annotation := none, pos := p2 }], vararg := none, kwonlyargs := [], kw_defaults := [], kwarg := none, defaults := [] }
def iB (q1 q2 q3 q4 : Pos) : List Stmt := [.Assign [.Attribute (.Name "self" q1) "number" q2] (.Name "number" q3) q4]
def iS : Scope := { kind := .function, names := [(PySem.Str.ofString "self", .local), (PySem.Str.ofString "number", .local)], isGenerator := false, isCoroutine := false, more := [] }
/-- what the written part says of Refused, at C, and of its __init__, at fI -/
structure RefTxt (K : Frag) (mg : Str → Option Value) (C fI : Addr) : Prop where
  gC : mg "Refused" = some (.ref C)
  cls : ∃ nm q N bs bm sn sub ab col dd k0 k1 k2 k3 k5, K.lookup C = some (excClassObj nm q C N bs bm true sn sub ab col dd k0 k1 k2 k3 k5 "ValueError.__new__") ∧ refsVE bm = true
  sa : findIn K (.ref C) "__setattr__" = some (some (.builtin "object.__setattr__"))
  ga : findIn K (.ref C) "__getattribute__" = some (some (.builtin "BaseException.__getattribute__"))
  gg : findIn K (.ref C) "__getattr__" = some none
  noN : findIn K (.ref C) "number" = some none
  iC : findIn K (.ref C) "__init__" = some (some (.ref fI))
  tC : typeIn K (.ref fI) = some (.type "function")
  kC : keepIn K (.ref C) = true
  exC : subIn K (.ref C) (.type "BaseException") = some true
  tyC : typeIn K (.ref C) = some (.type "type")
  hdC : hasDictIn K C = true
  te : exmOne K (.ref C) (.ref C) = some true
  fn : ∃ (oc : Value) (od : Option Addr) (doc pm : Value) (an : Option Addr) (cdv ct : Value) (osl : Array (Option Value)) (p1 p2 q1 q2 q3 q4 : Pos),
    K.lookup fI = some ⟨oc, od, .func (fnOf "__init__" "Refused.__init__" (iA p1 p2) (iB q1 q2 q3 q4) iS .none .none doc pm an cdv ct), osl⟩ ∧ codeIn K cdv "Refused.__init__" = true
theorem one_size (v : Value) : [v].length ≤ sizeLine := by
  rw [sizeLine_eq]
  exact (by decide : 1 ≤ 16777216)
theorem kept_but {K : Frag} {h h' : Heap} {x : Addr} (X : K.In h) (hx : K.lookup x = none) (k : ∀ b o, b ≠ x → h.get? b = some o → h'.get? b = some o) : K.In h' := fun a o e =>
  k a o (fun z => by rw [z, hx] at e; cases e) (X a o e)
theorem ldC {M : Model} {s : Shared} {name : Str} {scope : Scope} {L a : Addr} {cd : Value} {m : Str → Option Value} {x : Str} {pos : Pos} {v : Value} {Q : Value → Shared → Prop} {A : Around} {E : Value → Shared → Prop} (hn : s.heap.Ns L m) (hv : m x = some v) (h : Q v s)
    (hk : scope.kind = .function := by rfl) (hl : (envOfC name scope L a cd).kindOf x = some .local := by rfl) (hd : (x == ("__debug__" : Str)) = false := by decide) :
    wpAny M A (eval (.Name x pos) (envOfC name scope L a cd)) Q E s := wpAny_Name (wpAny_loadName_local hk hl hn hv h) hd
/-- what __init__ leaves of a fresh exception at x -/
structure InitEnd (h h' : Heap) (x C dx t1 : Addr) (v : Value) : Prop where
  keep : ∀ b o, b ≠ x → h.get? b = some o → h'.get? b = some o
  obj : h'.get? x = some { cls := .ref C, dict := some dx, data := .fields #[.ref t1, .none, .none, .none, .bool false, .none] }
  dbig : h.objs.size ≤ dx
  dne : dx ≠ x
  ns : h'.Ns1 dx (fun y => if y = "number" then some v else none)
/-- a made Refused -/
structure OwnMade (h h' : Heap) (e C d : Addr) (v : Value) : Prop where
  keep : ∀ b o, h.get? b = some o → h'.get? b = some o
  new : h.objs.size ≤ e
  obj : ∃ oe vs, h'.get? e = some oe ∧ oe.cls = .ref C ∧ oe.dict = some d ∧ oe.data = .fields vs ∧ vs[1]? = some .none
  dbig : h.objs.size ≤ d
  dne : d ≠ e
  ns : h'.Ns1 d (fun y => if y = "number" then some v else none)
section
variable {prog : Program} {w : World} {A : Around} {E : Value → Shared → Prop} {R : Result → Shared → Prop} {s : Shared} {K : Frag} {mg : Str → Option Value} {C fI : Addr}
theorem ref_init (T : RefTxt K mg C fI) {x t0 : Addr} {v : Value} (X : K.In s.heap) (hlim : s.heap.NoLimit) (hx : s.heap.get? x = some (excO C t0)) (hnx : K.lookup x = none) (hroom : A.depth < recursionLimit)
    (hq : ∀ h' tk dx, InitEnd s.heap h' x C dx t0 v → R (.ok (.ret .none)) { s with heap := h', toks := tk }) :
    codeAny (model prog w) A (.call (.ref fI) ⟨[.ref x, v], []⟩) R s := by
  obtain ⟨oc, od, doc, pm, an, cdv, ct, osl, p1, p2, q1, q2, q3, q4, ho, hcd⟩ := T.fn
  obtain ⟨nm, q, N, bs, bm, sn, sub, ab, col, dd, k0, k1, k2, k3, k5, hC, hbm⟩ := T.cls
  have hcl : clsIn K C = some { name := nm, bases := bs, mro := .ref C :: bm, ns := N, qualname := q, hasDict := true, slotNames := sn, subclasses := sub, abstract := ab, collection := col, hasDel := false } := by unfold clsIn; rw [hC] <;> rfl
  refine Att.call_fn (binds := [("self", .ref x), ("number", v)]) X hlim ho hcd hroom (BindsTo.of_eq (by first | rfl | with_unfolding_all rfl)) (by first | rfl | decide | with_unfolding_all rfl) (fun s₁ IC => ?_) rfl rfl rfl
  obtain ⟨h₁, tk₁, rfl⟩ := IC.toInCall.same
  have k : ∀ b o, s.heap.get? b = some o → h₁.get? b = some o := IC.toInCall.keep
  have hn := IC.toInCall.ns
  have hxL : s.heap.objs.size ≠ x := Nat.ne_of_gt (Heap.lt_size hx)
  have X₁ : K.In h₁ := X.keeps k
  have hx₁ := k _ _ hx
  -- self.by = by
  show wpAny _ _ (execs _ _) _ _ _
  refine wpAny_execs_cons (plainObj_wpAny_Assign_Attribute ?_)
  refine ldC (v := v) hn (by first | rfl | with_unfolding_all rfl | kernel_rfl) (ldC (v := .ref x) hn (by first | rfl | with_unfolding_all rfl | kernel_rfl) ?_)
  refine set_plain X₁ (ox := excO C t0) (od := none) ⟨hx₁, rfl, rfl, trivial⟩ T.sa ?_
  refine exc_osa X₁ hx₁ hcl (show refsVE (.ref C :: bm) = true from hbm) rfl T.noN (fun h₃ tk₃ dx k₃ dn dne hx₃ hn₃ => ?_)
  show wpAny _ _ (execs _ _) _ _ _
  have z : s.heap.objs.size < h₁.objs.size := hn.lt
  exact wpAny_execs_nil (hq h₃ tk₃ dx ⟨fun b o hb e => k₃ b o hb (k b o e), hx₃, Nat.le_of_lt (Nat.lt_of_lt_of_le z dn), dne, hn₃⟩)
theorem ref_made (T : RefTxt K mg C fI) {v : Value} (X : K.In s.heap) (hlim : s.heap.NoLimit) (hroom : A.depth + 1 < recursionLimit)
    (hq : ∀ h' tk e d, OwnMade s.heap h' e C d v → R (.ok (.ret (.ref e))) { s with heap := h', toks := tk }) :
    codeAny (model prog w) A (.call (.ref C) ⟨[v], []⟩) R s := by
  obtain ⟨nm, q, N, bs, bm, sn, sub, ab, col, dd, k0, k1, k2, k3, k5, hC, hbm⟩ := T.cls
  obtain ⟨hp, g, dr, tk, os⟩ := s
  have k : ∀ b o, hp.get? b = some o → ((hp.push (kdv_tup [v])).push (excO C hp.objs.size)).get? b = some o := fun b o e => Heap.get?_push_of_some _ (Heap.get?_push_of_some _ e)
  have hget : ((hp.push (kdv_tup [v])).push (excO C hp.objs.size)).get? (hp.objs.size + 1) = some (excO C hp.objs.size) := by heap_get
  have hnx : K.lookup (hp.objs.size + 1) = none := by
    cases e : K.lookup (hp.objs.size + 1) with
    | none => rfl
    | some o =>
      have z : hp.get? (hp.objs.size + 1) = some o := X _ _ e
      exact absurd (Nat.lt_of_succ_lt (Heap.lt_size z)) (Nat.lt_irrefl _)
  refine call_own F.excBase_ValueError (fun X => refsVE_contains X bm hbm) (X _ _ hC) (looks_findIn X T.iC) (fun self => bind_fn X self T.tC) (one_size v) ?_
  refine ref_init (s := ⟨(hp.push (kdv_tup [v])).push (excO C hp.objs.size), g, dr, tk, os⟩) T (X.keeps k) (hlim.keeps k) hget hnx ?_ fun h' tk' dx ⟨k', hx, dn, dne, hns⟩ => ?_
  · show A.depth + 1 < recursionLimit
    exact hroom
  · have old : ∀ b o, hp.get? b = some o → h'.get? b = some o := fun b o e => k' b o (Nat.ne_of_lt (Nat.lt_succ_of_lt (Heap.lt_size e))) (k b o e)
    have z : hp.objs.size + 1 + 1 ≤ dx := by
      first
        | (simpa only [Heap.size_push] using dn)
        | exact dn
        | (have q := dn; rw [Heap.size_push, Heap.size_push] at q; exact q)
    exact ⟨rfl, hq h' tk' (hp.objs.size + 1) dx ⟨old, Nat.le_succ _, ⟨_, _, hx, rfl, rfl, rfl, rfl⟩, Nat.le_trans (Nat.le_trans (Nat.le_succ _) (Nat.le_succ _)) z, dne, hns⟩⟩
end
end RefX
end PySem
namespace L2
open PySem PySem.Spec PyProof.Rows
theorem relO_ref {v : V} {v' : Value} (r : RelV v v') (f : Str) : RelO (List.lookup f [(("number" : Str), v)]) (if f = "number" then some v' else none) := by
  by_cases hw : f = "number"
  · subst hw
    rw [if_pos rfl]
    have q : List.lookup ("number" : Str) [(("number" : Str), v)] = some v := by simp [List.lookup]
    rw [q]
    exact r
  · rw [if_neg hw]
    have qw : (f == ("number" : Str)) = false := by simpa using hw
    have q2 : List.lookup f [(("number" : Str), v)] = none := by simp [List.lookup, qw]
    rw [q2]
    trivial
section
variable {X : Cx} {C fI : Addr}
/-- Refused(e) -/
def tMkRef (C : Addr) (ta : TA) : St → Hp → XK → Prop := fun σ H Q => ta σ H fun vs H1 => ∃ v, vs = [v] ∧ ∀ d, H1 d = none → Q (.ref C) (some d) (upd H1 d (.xd [(("number" : Str), v)]))
theorem pmk_ref {a : Expr} {ta : TA} {p pos : Pos} {k : Nat} (T : PySem.RefX.RefTxt X.K X.mg C fI) (hr : Room k X.A) (ha : PA X [a] ta) (hg : Gl X "Refused" := by rfl)
    (he : starEach (a :: []) X.env = (false, eval a X.env) :: starEach [] X.env := by rfl) (hpl : (backTo pos (starEach [] X.env)).any (·.1) = false := by rfl) :
    PMk X (.Call (.Name "Refused" p) [a] [] pos) (tMkRef C ta) := by
  intro pins s σ H Q I h
  refine wpAny_Call_Name_kw (ld_glob I hg T.gC ?_)
  refine PySem.W.callWith_K (h₀ := X.base) I.ok.mod.kin T.kC (thn (ha.run pos pins s σ H _ I h) fun us s1 hh => ?_) he hpl
  obtain ⟨vs, H1, I1, r1, v, ev, q1⟩ := hh
  subst ev
  refine ⟨I1.kIn, ?_⟩
  cases r1 with
  | cons rv rn =>
    rename_i v' us'
    cases rn
    show wpAny _ _ (call (.ref C) [v']) _ _ _
    have hlim := I1.nolimit
    obtain ⟨hp, g, dr, tk, os⟩ := s1
    refine wpAny_call (PySem.RefX.ref_made T I1.kIn hlim (by have := hr.dp; omega) fun h' tk' e d M => ?_)
    show MkP X pins σ Q (.ref e) ⟨h', g, dr, tk', os⟩
    obtain ⟨oe, fv, hoe, hc, hd, hdat, h1⟩ := M.obj
    have hns := M.ns
    obtain ⟨G', g1, g2⟩ := restrict h' fun b => decide (b ≠ e)
    have gk : ∀ b, b ≠ e → G'.get? b = h'.get? b := fun b hb => g1 b (decide_eq_true hb)
    have ge : G'.get? e = none := g2 e (by simp)
    have old : ∀ b o, hp.get? b = some o → G'.get? b = some o := fun b o q => (gk b (Nat.ne_of_lt (Nat.lt_of_lt_of_le (Heap.lt_size q) M.new))).trans (M.keep b o q)
    have ob : ObjOk X.prog X.w (upd H1 d (.xd [(("number" : Str), v)])) G' d (.xd [(("number" : Str), v)]) :=
      ⟨_, hns.at (fun o q => (gk d M.dne).trans q), fun f => relO_ref rv f⟩
    have J : Inv X pins σ (upd H1 d (.xd [(("number" : Str), v)])) ⟨G', g, dr, tk', os⟩ := I1.laid (t' := tk') old M.dbig ob
    refine ⟨e, oe, fv, ⟨G', g, dr, tk', os⟩, _, .ref C, some d, rfl, J, fun b o q => ?_, ge, hoe, ⟨hc, hd⟩, hdat, h1, ?_, rfl, I1.bare, raises_own T.exC T.tyC, q1 d (I1.hok.fresh M.dbig)⟩
    · by_cases hb : b = e
      · have q' : G'.get? b = some o := q
        rw [hb, ge] at q'; cases q'
      · exact (gk b hb).symm.trans q
    · rw [upd_ne (Ne.symm M.dne)]
      exact I1.hok.fresh M.new
/-- raise Refused(e) -/
def tRaiseRef (C : Addr) (W : WX) (ta : TA) : TS := fun _ σ H => tMkRef C ta σ H fun cls d H' => W cls d σ H'
theorem ps_raiseRef {a : Expr} {ta : TA} {W : WX} {p pos pos2 : Pos} {k : Nat} (hc : X.calm = true) (T : PySem.RefX.RefTxt X.K X.mg C fI) (hr : Room k X.A) (tk : Takes X W) (ha : PA X [a] ta) (hg : Gl X "Refused" := by rfl)
    (he : starEach (a :: []) X.env = (false, eval a X.env) :: starEach [] X.env := by rfl) (hpl : (backTo pos (starEach [] X.env)).any (·.1) = false := by rfl) :
    PS X (.Raise (some (.Call (.Name "Refused" p) [a] [] pos)) none pos2) (tRaiseRef C W ta) := ps_raise hc tk (pmk_ref T hr ha hg he hpl)
/-- e.number, e the exception that the suite holds (at a; its class cls, its dict d) -/
def tNum (C : Addr) (a : Addr) (cls : Value) (d : Option Addr) (te : TE) : TE := fun σ H Q => te σ H fun x H1 => x = .ref a ∧ cls = .ref C ∧ ∃ (dd : Addr) (v : V), d = some dd ∧ H1 dd = some (.xd [(("number" : Str), v)]) ∧ Q v H1
theorem pe_num {a : Addr} {oe : Obj} {cls : Value} {d : Option Addr} {pn : List (Addr × Obj)} {e : Expr} {te : TE} {pos : Pos} (T : PySem.RefX.RefTxt X.K X.mg C fI) (hz : Zc cls d oe) (hf : ∃ vs, oe.data = .fields vs) (he : PE (X.suite a ((a, oe) :: pn)) e te)
    (hb : attributeBase e "number" X.env (eval e X.env) = eval e X.env := by rfl) :
    PE (X.suite a ((a, oe) :: pn)) (.Attribute e "number" pos) (tNum C a cls d te) := by
  refine ⟨fun pins s σ H Q I h => ?_⟩
  refine attr_of hb (thn (he.run pins s σ H _ I h) fun u s1 hh => ?_)
  obtain ⟨x, H1, I1, rx, ex, ec, dd, v, ed, ea, q⟩ := hh
  subst ex
  obtain rfl : u = Value.ref a := rx
  subst ec
  subst ed
  obtain ⟨ha, _⟩ := I1.pin (a, oe) (List.mem_append_left _ List.mem_cons_self)
  obtain ⟨vs, hd⟩ := hf
  have hx : ObjOk X.prog X.w H1 s1.heap dd (.xd [(("number" : Str), v)]) := I1.hok dd _ ea
  obtain ⟨mA, hns, hr⟩ := hx
  obtain ⟨od, ho, hl⟩ := lookIn_ns hns
  have l : List.lookup ("number" : Str) [(("number" : Str), v)] = some v := by simp [List.lookup]
  obtain ⟨u, hu, ru⟩ := RelO.some_of (v := v) (o := mA "number") (by rw [← l]; exact hr "number")
  have J : PySem.W.InstAt s1.heap a oe C (some od) := ⟨ha, hz.1, by unfold PySem.W.notCls; rw [hd] <;> rfl, by rw [hz.2]; exact ho⟩
  exact HandSPX.exc_get I1.kIn J T.ga T.gg T.exC (PySem.W.findObj_own T.hdC T.noN rfl (by rw [hl, hu])) (handed_of ru) ⟨v, H1, I1.tok _, ru, q⟩
end
end L2
namespace Cw
open PySem PySem.Spec PyProof.Rows L2 Evl
open PySem.RefX (RefTxt)
open Cm (keysM setN isW hasB roomSl goesIn keptToo isFreeB withoutPlace movedBy allSl freeOf goalsOf GoalsOk keysOf leastOf isProof proofsOf boundsOf coversOf)
/-! ### constants, refusals -/
structure Cst (mg : Str → Option Value) : Prop where
  KEY_MOST : ∃ t, mg "KEY_MOST" = some (.int 1000000000 t)
  MEMBERS_MOST : ∃ t, mg "MEMBERS_MOST" = some (.int 8 t)
  PLACES_MOST : ∃ t, mg "PLACES_MOST" = some (.int 32 t)
  CLIENTS_MOST : ∃ t, mg "CLIENTS_MOST" = some (.int 16 t)
  ROOM_MOST : ∃ t, mg "ROOM_MOST" = some (.int 16 t)
  ORDER_MOST : ∃ t, mg "ORDER_MOST" = some (.int 1000000 t)
theorem pe_gi {X : Cx} {x : Str} {n : Int} {pos : Pos} (hg : Gl X x) (h : ∃ t, X.mg x = some (.int n t)) (hd : (x == ("__debug__" : Str)) = false := by decide) : PE X (.Name x pos) (tC (.int n)) := by
  obtain ⟨t, h⟩ := h
  exact pe_glob hg h ⟨t, rfl⟩ hd
section
variable {X : Cx} {k j : Nat} {x : Str} {sp : Sp} {p pos : Pos} {e : Expr} {es : List Expr} {t : TA} {W : WX}
theorem pe_x (c : CalX X.prog X.w X.K X.mg X.base k x sp) (hr : Room j X.A) (tk : Takes X W) (ha : PA X (e :: es) t) (hk : k ≤ j := by decide) (hg : Gl X x := by rfl)
    (hdb : (x == ("__debug__" : Str)) = false := by decide) (he : starEach (e :: es) X.env = (false, eval e X.env) :: starEach es X.env := by rfl) (hpl : (backTo pos (starEach es X.env)).any (·.1) = false := by rfl) :
    PE X (.Call (.Name x p) (e :: es) [] pos) (tCallS sp (WE W) t) := by
  obtain ⟨f, fd, ps, F, hm, kp, b⟩ := c.ex
  exact pe_callS F (hr.mono hk) hg hm kp b (fun σ => passAt tk σ) ha hdb he hpl
end
/-- the refusal by a number may leave -/
def Rs (R : Addr) (E : XK) (H : Hp) (code : Int) : Prop := ∀ H' d, Ex H H' → H d = none → H' d = some (.xd [(("number" : Str), .int code)]) → E (.ref R) (some d) H'
theorem Rs.go {R : Addr} {E : XK} {H H' : Hp} {code : Int} (k : Rs R E H code) (e : Ex H H') : Rs R E H' code := fun H2 d e2 hd h => k H2 d (e.trans e2) (fresh_back e hd) h
section
variable {K : PySem.W.Frag} {σ : L2.St} {H H' : Hp} {ta te : TE} {v : V} {D : Ends} {tz : TS}
/-- raise Refused(n) -/
theorem s_raise {R : Addr} {E : XK} {n : Int} {te : TE} (h : Ev te σ H (.int n)) (k : Rs R E H n) : tRaiseRef R (fun cls d _ H => E cls d H) (tCons te tNil) D σ H := h H (Ex.refl H) _ fun H1 e => ⟨_, rfl, fun d hd => k _ d (e.trans (Ex.new hd)) (fresh_back e hd) upd_same⟩
theorem ev_neg {n : Int} (h : Ev te σ H (.int n)) : Ev (tUn (rU fun i => .int (-i)) te) σ H (.int (-n)) := ev_un h ru_neg
/-- a statement f(..), f may raise -/
theorem q_dropX {sp : Sp} {E : L2.St → XK} {ta : TA} (h : EvAs ta σ H fun vs H1 => sp vs H1 (fun _ H2 => tz D σ H2) (E σ)) : tSeq (tDrop (tCallS sp E ta)) tz D σ H := h H (Ex.refl H) _ fun _ _ _ p => p
theorem s_dropX {sp : Sp} {E : L2.St → XK} {ta : TA} (h : EvAs ta σ H fun vs H1 => sp vs H1 (fun _ H2 => D.nx σ H2) (E σ)) : tDrop (tCallS sp E ta) D σ H := h H (Ex.refl H) _ fun _ _ _ p => p
theorem q_asgX {sp : Sp} {E : L2.St → XK} {ta : TA} {i : Nat} (h : EvAs ta σ H fun vs H1 => sp vs H1 (fun v H2 => tz D (σ.set i (some v)) H2) (E σ)) : tSeq (tAsg (tCallS sp E ta) (gName i)) tz D σ H := h H (Ex.refl H) _ fun _ _ _ p => p
theorem s_retX {sp : Sp} {E : L2.St → XK} {ta : TA} (h : EvAs ta σ H fun vs H1 => sp vs H1 D.rt (E σ)) : tRet (tCallS sp E ta) D σ H := h H (Ex.refl H) _ fun _ _ _ p => p
end
/-! ### the house in the heap -/
def hF (rd cl : Addr) : List (Str × V) := [("rooms", .ref rd), ("clients", .ref cl)]
structure ClsH (K : PySem.W.Frag) (C : Addr) : Prop where
  cl : Cls K C
  nR : NoAttr K C "rooms"
  nC : NoAttr K C "clients"
structure HsAt (CH CC : Addr) (H : Hp) (h rd cl : Addr) (ms : List Mem) (L : List AC) : Prop where
  obj : ∃ dx, H h = some (.ins CH dx (hF rd cl))
  rooms : RoomsAt H rd ms
  lst : H cl = some (.lst (refs L))
  ok : LOk CC H (keysM ms) L
theorem HsAt.ext {CH CC : Addr} {H H' : Hp} {h rd cl : Addr} {ms : List Mem} {L : List AC} (x : HsAt CH CC H h rd cl ms L) (e : Ex H H') : HsAt CH CC H' h rd cl ms L :=
  ⟨by obtain ⟨dx, q⟩ := x.obj; exact ⟨dx, e _ _ q⟩, x.rooms.ext e, e _ _ x.lst, x.ok.ext e⟩
theorem hF_rooms (rd cl : Addr) : (hF rd cl).lookup ("rooms" : Str) = some (.ref rd) := lk_here
theorem hF_clients (rd cl : Addr) : (hF rd cl).lookup ("clients" : Str) = some (.ref cl) := (lk_past (by decide +kernel)).trans lk_here
theorem hF_client_of (rd cl : Addr) : (hF rd cl).lookup ("client_of" : Str) = none := (lk_past (by decide +kernel)).trans ((lk_past (by decide +kernel)).trans rfl)
section
variable {K : PySem.W.Frag} {CH CC : Addr} {σ : L2.St} {H : Hp} {h rd cl : Addr} {ms : List Mem} {L : List AC} {te : TE}
theorem ev_rooms (TH : ClsH K CH) (e : Ev te σ H (.ref h)) (x : HsAt CH CC H h rd cl ms L) : Ev (tFld K te "rooms") σ H (.ref rd) := by
  obtain ⟨dx, q⟩ := x.obj
  exact ev_fld e q TH.cl TH.nR (hF_rooms rd cl)
theorem ev_clients (TH : ClsH K CH) (e : Ev te σ H (.ref h)) (x : HsAt CH CC H h rd cl ms L) : Ev (tFld K te "clients") σ H (.ref cl) := by
  obtain ⟨dx, q⟩ := x.obj
  exact ev_fld e q TH.cl TH.nC (hF_clients rd cl)
end
section
variable {P : Program} {w : World} {K : PySem.W.Frag} {mg : Str → Option Value} {base : Heap} {C CH R fI : Addr}
/-! ### look_range, look_key -/
def spRange (R : Addr) : Sp := fun vs H Q E => ∃ (n lo hi : Int), vs = [.int n, .int lo, .int hi] ∧ (¬ (lo ≤ n ∧ n ≤ hi) → Rs R E H (-1)) ∧ (lo ≤ n ∧ n ≤ hi → RetV .non H Q)
abbrev s_look_range : Stmt := top 8
abbrev N_look_range : List Str := ["number", "low", "high"]
abbrev P_look_range : List Str := ["number", "low", "high"]
theorem sc_look_range : FnScope N_look_range P_look_range (defScope s_look_range) := ⟨rfl, rfl, rfl, by decide +kernel, rfl, by decide +kernel, by decide +kernel⟩

theorem ok_look_range (TR : RefTxt K mg R fI) (D : Dfn K mg "look_range" s_look_range P_look_range) : CalX P w K mg base 3 "look_range" (spRange R) := by
  refine calX_of D sc_look_range (fun vs H Q E h => ?_) fun f cdv A outer s H vs Q E hr h => ?_
  · obtain ⟨a, b, c, rfl, _⟩ := h; rfl
  · refine ⟨_, (pss_one (ps_if (pt_not (pt_chain op_le op_le (pv 1) (pv 0) (pv 2))) (pss_one (ps_raiseRef rfl TR hr (takes_of rfl rfl rfl rfl) (by exact (pa_cons (pe_un un_neg pe_int) pa_nil)))) pss_nil)), ?_⟩
    obtain ⟨n, lo, hi, rfl, k1, k2⟩ := h
    refine ⟨_, rfl, _, rfl, _, _, rfl, rfl, _, rfl, ?_⟩
    by_cases h1 : lo ≤ n
    · rw [if_pos (decide_eq_true h1)]
      refine ⟨_, rfl, _, _, rfl, rfl, _, rfl, ?_⟩
      by_cases h2 : n ≤ hi
      · rw [decide_eq_true h2]
        exact k2 ⟨h1, h2⟩ H (Ex.refl H)
      · rw [decide_eq_false h2]
        exact s_raise (D := { nx := fun _ _ => True, rt := fun _ _ => True }) (ev_neg ev_c) (k1 fun z => h2 z.2)
    · rw [if_neg (fun z => h1 (of_decide_eq_true z))]
      refine ⟨_, rfl, ?_⟩
      exact s_raise (D := { nx := fun _ _ => True, rt := fun _ _ => True }) (ev_neg ev_c) (k1 fun z => h1 z.1)
def spKey (R : Addr) : Sp := fun vs H Q E => ∃ (n : Int), vs = [.int n] ∧ (Vbchaj.keyed n = false → Rs R E H (-1)) ∧ (Vbchaj.keyed n = true → RetV .non H Q)
theorem keyed_iff (n : Int) : Vbchaj.keyed n = true ↔ 1 ≤ n ∧ n ≤ 1000000000 := by
  unfold Vbchaj.keyed Vbchaj.within
  rw [Bool.and_eq_true, decide_eq_true_iff, decide_eq_true_iff]
  rfl
abbrev s_look_key : Stmt := top 9
abbrev N_look_key : List Str := ["number"]
abbrev P_look_key : List Str := ["number"]
theorem sc_look_key : FnScope N_look_key P_look_key (defScope s_look_key) := ⟨rfl, rfl, rfl, by decide +kernel, rfl, by decide +kernel, by decide +kernel⟩

theorem ok_look_key (TK : Cst mg) (D : Dfn K mg "look_key" s_look_key P_look_key) (x_look_range : CalX P w K mg base 3 "look_range" (spRange R)) : CalX P w K mg base 4 "look_key" (spKey R) := by
  refine calX_of D sc_look_key (fun vs H Q E h => ?_) fun f cdv A outer s H vs Q E hr h => ?_
  · obtain ⟨a, rfl, _⟩ := h; rfl
  · refine ⟨_, (pss_one (ps_expr (pe_x x_look_range hr (takes_of rfl rfl rfl rfl) (by exact (pa_cons (pv 0) (pa_cons pe_int (pa_cons (pe_gi rfl TK.KEY_MOST) pa_nil))))))), ?_⟩
    obtain ⟨n, rfl, k1, k2⟩ := h
    refine s_dropX (as_v (ev_var rfl) (as_v ev_c (as_v ev_c (as_nil fun H1 e => ⟨n, 1, 1000000000, rfl, fun h => (k1 ?_).go e, fun h H2 e2 => k2 ?_ H2 (e.trans e2)⟩))))
    · exact Bool.eq_false_iff.mpr fun z => h ((keyed_iff n).mp z)
    · exact (keyed_iff n).mpr h
/-! ### look_list -/
def spList (K : PySem.W.Frag) (R : Addr) : Sp := fun vs H Q E => ∃ (a : Addr) (ns : List Int), vs = [.ref a] ∧ SqL K H a (zs ns) ∧ ns.length ≤ 100 ∧ (Vbchaj.listed ns = false → Rs R E H (-1)) ∧
  (Vbchaj.listed ns = true → Vbchaj.distinct (Vbchaj.nats ns) = false → Rs R E H (-3)) ∧ (Vbchaj.listed ns = true → Vbchaj.distinct (Vbchaj.nats ns) = true → RetV .non H Q)
theorem fm_len (val : Nat → Int) : ∀ i, (PyProof.Rows.firstMet val i).length = i → ((List.range i).map val).Nodup ∧ PyProof.Rows.firstMet val i = (List.range i).map val
  | 0, _ => ⟨List.nodup_nil, rfl⟩
  | i + 1, h => by
    have hle := PyProof.Rows.firstMet_length_le val i
    rw [PyProof.Rows.firstMet_succ] at h ⊢
    unfold PyProof.Rows.step_dedup at h ⊢
    split at h
    · omega
    · rename_i hn
      rw [if_neg hn]
      have hi : (PyProof.Rows.firstMet val i).length = i := by simpa using h
      obtain ⟨h1, h2⟩ := fm_len val i hi
      rw [List.range_succ, List.map_append, h2]
      refine ⟨List.nodup_append.mpr ⟨h1, by simp, fun a ha b hb => ?_⟩, rfl⟩
      have hb : b = val i := by simpa using hb
      subst hb
      rintro rfl
      refine hn (List.any_eq_true.mpr ⟨_, h2 ▸ ha, by simp⟩)
theorem range_getD (ns : List Int) : (List.range ns.length).map (fun i => ns.getD i 0) = ns := by
  apply List.ext_getElem?
  intro i
  rw [List.getElem?_map]
  by_cases hi : i < ns.length
  · rw [List.getElem?_range hi]
    simp [List.getD_eq_getElem?_getD, hi]
  · rw [List.getElem?_eq_none (by simp; omega), List.getElem?_eq_none (by omega)]; rfl
theorem dedN_iff (ns : List Int) : dedN ns = ns.length ↔ ns.Nodup := by
  unfold dedN
  constructor
  · intro h
    have := (fm_len _ _ h).1
    rwa [range_getD] at this
  · intro h
    rw [RZ.firstMet_nodup h ns.length (Nat.le_refl _), List.take_length]
theorem dedN_le (ns : List Int) : dedN ns ≤ ns.length := PyProof.Rows.firstMet_length_le _ _
theorem distinct_iff : ∀ (l : List Nat), Vbchaj.distinct l = true ↔ l.Nodup
  | [] => by simp [Vbchaj.distinct]
  | x :: l => by
    unfold Vbchaj.distinct
    rw [Bool.and_eq_true, distinct_iff l, List.nodup_cons]
    simp
theorem toNat_nodup : ∀ {ns : List Int}, (∀ z ∈ ns, 0 ≤ z) → ((Vbchaj.nats ns).Nodup ↔ ns.Nodup)
  | [], _ => by simp [Vbchaj.nats]
  | z :: ns, h => by
    have hz := h z List.mem_cons_self
    have hr : ∀ y ∈ ns, 0 ≤ y := fun y hy => h y (List.mem_cons_of_mem _ hy)
    have ih := toNat_nodup hr
    unfold Vbchaj.nats at ih ⊢
    rw [List.map_cons, List.nodup_cons, List.nodup_cons, ih]
    refine and_congr_left fun _ => not_congr ?_
    constructor
    · intro m
      obtain ⟨y, hy, e⟩ := List.mem_map.mp m
      have := hr y hy
      have : y = z := by omega
      exact this ▸ hy
    · exact fun m => List.mem_map.mpr ⟨z, m, rfl⟩
theorem listed_iff (ns : List Int) : Vbchaj.listed ns = true ↔ ns.length ≤ 8 ∧ ∀ z ∈ ns, Vbchaj.keyed z = true := by
  unfold Vbchaj.listed
  rw [Bool.and_eq_true, decide_eq_true_iff, List.all_eq_true]
  rfl
theorem zs_at {ns : List Int} {i : Nat} {x : V} (h : (zs ns)[i]? = some x) : ∃ z, ns[i]? = some z ∧ x = .int z ∧ z ∈ ns := by
  unfold zs at h
  rw [List.getElem?_map] at h
  cases q : ns[i]? with
  | none => rw [q] at h; cases h
  | some z =>
    rw [q] at h
    exact ⟨z, rfl, (Option.some.inj h).symm, List.mem_of_getElem? q⟩
theorem et_op {σ : L2.St} {H : Hp} {ta tb : TE} {x y : V} {b : Bool} {r : R2} (ha : Ev ta σ H x) (hb : Ev tb σ H y) (hr : RV r x y H (.bl b)) : EvT (tTest (tOp r ta tb)) σ H b := et_test (ev_op ha hb hr)
abbrev s_look_list : Stmt := top 10
abbrev N_look_list : List Str := ["row", "key"]
abbrev P_look_list : List Str := ["row"]
theorem sc_look_list : FnScope N_look_list P_look_list (defScope s_look_list) := ⟨rfl, rfl, rfl, by decide +kernel, rfl, by decide +kernel, by decide +kernel⟩

theorem ok_look_list (TR : RefTxt K mg R fI) (TK : Cst mg) (B : Blt mg) (D : Dfn K mg "look_list" s_look_list P_look_list) (x_look_key : CalX P w K mg base 4 "look_key" (spKey R)) : CalX P w K mg base 5 "look_list" (spList K R) := by
  refine calX_of D sc_look_list (fun vs H Q E h => ?_) fun f cdv A outer s H vs Q E hr h => ?_
  · obtain ⟨a, b, rfl, _⟩ := h; rfl
  · refine ⟨_, (pss_cons (ps_if (pt_cmpR op_gt (pe_callB call_len_seq (by rfl) B.len (by decide +kernel) (by exact (pa_cons (pv 0) pa_nil))) (pe_gi rfl TK.MEMBERS_MOST) (nomark _)) (pss_one (ps_raiseRef rfl TR hr (takes_of rfl rfl rfl rfl) (by exact (pa_cons (pe_un un_neg pe_int) pa_nil)))) pss_nil)
  (pss_cons (ps_for (passes_of rfl) rfl (pi_list (pv 0)) (pg_name (i := 1) sc_look_list.nd rfl (Or.inl rfl))
  (pss_one (ps_expr (pe_x x_look_key hr (takes_of rfl rfl rfl rfl) (by exact (pa_cons (pv 1) pa_nil))))))
  (pss_one (ps_if (pt_cmpR op_lt (pe_lenSetD (by rfl) B.len (by rfl) B.set (pv 0)) (pe_callB call_len_seq (by rfl) B.len (by decide +kernel) (by exact (pa_cons (pv 0) pa_nil))) (nomark _)) (pss_one (ps_raiseRef rfl TR hr (takes_of rfl rfl rfl rfl) (by exact (pa_cons (pe_un un_neg pe_int) pa_nil)))) pss_nil)))), ?_⟩
    obtain ⟨a, ns, rfl, hs, hn, k1, k3, k0⟩ := h
    refine q_when (et_op (ev_len (ev_var rfl) hs) ev_c rv_I0) (fun hb H1 e1 => s_raise (ev_neg ev_c) ((k1 ?_).go e1)) (fun hb H1 e1 => ?_)
    · rw [zs_len] at hb
      refine Bool.eq_false_iff.mpr fun z => ?_
      have := ((listed_iff ns).mp z).1
      have := of_decide_eq_true hb
      omega
    · rw [zs_len] at hb
      have h8 : ns.length ≤ 8 := by have := of_decide_eq_false hb; omega
      refine q_forLn (ev_var rfl) (ex_l e1 hs) (fun i σ' H' => ∃ v1, σ' = [some (.ref a), v1] ∧ Ex H H' ∧ ∀ z ∈ ns.take i, Vbchaj.keyed z = true) (fun H2 e2 => ⟨none, rfl, e1.trans e2, fun z hz => (by simp at hz)⟩) (fun i σ' H' hi ⟨_, _, ex, _⟩ => ex_l ex hs) (fun i x σ' H' hx ⟨v1, es, ex, hk⟩ => ?_) (fun σ' H' ⟨v1, es, ex, hk⟩ => ?_)
      · subst es
        obtain ⟨z, hz, rfl, hm⟩ := zs_at hx
        refine s_dropX (as_v (ev_var rfl) (as_nil fun H2 e2 => ⟨z, rfl, fun h => (k1 ?_).go (ex.trans e2), fun h H3 e3 => ⟨_, rfl, (ex.trans e2).trans e3, ?_⟩⟩))
        · refine Bool.eq_false_iff.mpr fun q => ?_
          rw [((listed_iff ns).mp q).2 z hm] at h
          cases h
        · intro y hy
          obtain ⟨hi, rfl⟩ := List.getElem?_eq_some_iff.mp hz
          rw [List.take_succ_eq_append_getElem hi] at hy
          rcases List.mem_append.mp hy with hy | hy
          · exact hk y hy
          · obtain rfl := List.mem_singleton.mp hy; exact h
      · subst es
        rw [zs_len, List.take_length] at hk
        have hl : Vbchaj.listed ns = true := (listed_iff ns).mpr ⟨h8, hk⟩
        have h0 : ∀ z ∈ ns, 0 ≤ z := fun z hz => by have := (keyed_iff z).mp (hk z hz); omega
        have ls : Ev (tLenSetD K (tVar 0)) [some (.ref a), v1] H' (.int (dedN ns : Nat)) := fun H2 e2 Q q => ⟨_, rfl, a, ns, rfl, ex_l (ex.trans e2) hs, by omega, q H2 (Ex.refl H2)⟩
        refine s_when (et_op ls (ev_len (ev_var rfl) (ex_l ex hs)) rv_I0) (fun hb H2 e2 => s_raise (ev_neg ev_c) ((k3 hl ?_).go (ex.trans e2))) (fun hb H2 e2 => k0 hl ?_ H2 (ex.trans e2))
        · have := of_decide_eq_true hb
          rw [zs_len] at this
          refine Bool.eq_false_iff.mpr fun q => ?_
          have := (dedN_iff ns).mpr ((toNat_nodup h0).mp ((distinct_iff _).mp q))
          omega
        · have := of_decide_eq_false hb
          rw [zs_len] at this
          have := dedN_le ns
          exact (distinct_iff _).mpr ((toNat_nodup h0).mpr ((dedN_iff ns).mp (by omega)))
/-! ### look_members -/
def kn (ms : List Mem) (ns : List Int) : Bool := ns.all fun z => decide (z.toNat ∈ keysM ms)
def spLookM (K : PySem.W.Frag) (CH C R : Addr) : Sp := fun vs H Q E => ∃ (h rd cl a : Addr) (ms : List Mem) (L : List AC) (ns : List Int), vs = [.ref h, .ref a] ∧ HsAt CH C H h rd cl ms L ∧ SqL K H a (zs ns) ∧ ns.length ≤ 100 ∧ (∀ z ∈ ns, 0 ≤ z) ∧
  (kn ms ns = false → Rs R E H (-4)) ∧ (kn ms ns = true → RetV .non H Q)
theorem rk_some : ∀ (l : List Mem) (z : Int), 0 ≤ z → (valV (rk l) (Sum.inl z)).isSome = decide (z.toNat ∈ keysM l)
  | [], z, _ => rfl
  | m :: l, z, h => by
    have ih := rk_some l z h
    unfold valV rk keysM at ih ⊢
    rw [List.map_cons, List.find?_cons, List.map_cons]
    by_cases e : (m.key : Int) = z
    · have : decide ((Sum.inl (m.key : Int) : L2.Key) = Sum.inl z) = true := decide_eq_true (by rw [e])
      rw [this, decide_eq_true (by rw [← e]; simp)]; rfl
    · have : decide ((Sum.inl (m.key : Int) : L2.Key) = Sum.inl z) = false := decide_eq_false fun q => e (Sum.inl.inj q)
      rw [this]
      refine ih.trans ?_
      have ne : z.toNat ≠ m.key := by omega
      by_cases q : z.toNat ∈ l.map fun m => m.key
      · rw [decide_eq_true q, decide_eq_true (List.mem_cons_of_mem _ q)]
      · rw [decide_eq_false q, decide_eq_false fun w => (List.mem_cons.mp w).elim ne q]
theorem RoomsAt.ask {H : Hp} {d : Addr} {ms : List Mem} (r : RoomsAt H d ms) {z : Int} (h : 0 ≤ z) : ∃ o, DGet H d (.int z) o ∧ o.isSome = decide (z.toNat ∈ keysM ms) := by
  obtain ⟨l, p, hd⟩ := r.ex
  refine ⟨_, DGet.k (k := Sum.inl z) hd, ?_⟩
  rw [rk_some l z h]
  have : z.toNat ∈ keysM l ↔ z.toNat ∈ keysM ms := (p.map _).mem_iff
  by_cases q : z.toNat ∈ keysM ms
  · rw [decide_eq_true q, decide_eq_true (this.mpr q)]
  · rw [decide_eq_false q, decide_eq_false fun w => q (this.mp w)]
theorem ev_dnotin {σ : L2.St} {H : Hp} {d : Addr} {ms : List Mem} {z : Int} {ty td : TE} (r : RoomsAt H d ms) (h : 0 ≤ z) (hy : Ev ty σ H (.int z)) (hd : Ev td σ H (.ref d)) : Ev (tDNotIn ty td) σ H (.bl (!decide (z.toNat ∈ keysM ms))) := fun H1 e Q q =>
  hy H1 e _ fun H2 e2 => hd H2 (e.trans e2) _ fun H3 e3 => by
    obtain ⟨o, g, e4⟩ := (r.ext ((e.trans e2).trans e3)).ask h
    exact ⟨d, o, rfl, g, by rw [e4]; exact q H3 (e2.trans e3)⟩
theorem ev_din {σ : L2.St} {H : Hp} {d : Addr} {ms : List Mem} {z : Int} {ty td : TE} (r : RoomsAt H d ms) (h : 0 ≤ z) (hy : Ev ty σ H (.int z)) (hd : Ev td σ H (.ref d)) : Ev (tDIn ty td) σ H (.bl (decide (z.toNat ∈ keysM ms))) := fun H1 e Q q =>
  hy H1 e _ fun H2 e2 => hd H2 (e.trans e2) _ fun H3 e3 => by
    obtain ⟨o, g, e4⟩ := (r.ext ((e.trans e2).trans e3)).ask h
    exact ⟨d, o, rfl, g, by rw [e4]; exact q H3 (e2.trans e3)⟩
abbrev s_look_members : Stmt := top 11
abbrev N_look_members : List Str := ["house", "row", "key"]
abbrev P_look_members : List Str := ["house", "row"]
theorem sc_look_members : FnScope N_look_members P_look_members (defScope s_look_members) := ⟨rfl, rfl, rfl, by decide +kernel, rfl, by decide +kernel, by decide +kernel⟩

theorem ok_look_members (TH : ClsH K CH) (TR : RefTxt K mg R fI) (D : Dfn K mg "look_members" s_look_members P_look_members) : CalX P w K mg base 3 "look_members" (spLookM K CH C R) := by
  refine calX_of D sc_look_members (fun vs H Q E h => ?_) fun f cdv A outer s H vs Q E hr h => ?_
  · obtain ⟨a, b, c, d, e, g, i, rfl, _⟩ := h; rfl
  · refine ⟨_, (pss_one (ps_for (passes_of rfl) rfl (pi_list (pv 1)) (pg_name (i := 2) sc_look_members.nd rfl (Or.inl rfl))
  (pss_one (ps_if (pt_cmp (pc_dnotin (hu_of hr) (pv 2) (pe_fld (pv 0) rfl))) (pss_one (ps_raiseRef rfl TR hr (takes_of rfl rfl rfl rfl) (by exact (pa_cons (pe_un un_neg pe_int) pa_nil)))) pss_nil)))), ?_⟩
    obtain ⟨h, rd, cl, a, ms, L, ns, rfl, X, hs, hn, h0, k4, k0⟩ := h
    refine s_forLn (ev_var rfl) hs (fun i σ' H' => ∃ v2, σ' = [some (.ref h), some (.ref a), v2] ∧ Ex H H' ∧ ∀ z ∈ ns.take i, z.toNat ∈ keysM ms) (fun H2 e2 => ⟨none, rfl, e2, fun z hz => (by simp at hz)⟩) (fun i σ' H' hi ⟨_, _, ex, _⟩ => ex_l ex hs) (fun i x σ' H' hx ⟨v1, es, ex, hk⟩ => ?_) (fun σ' H' ⟨v1, es, ex, hk⟩ => ?_)
    · subst es
      obtain ⟨z, hz, rfl, hm⟩ := zs_at hx
      have X' := X.ext ex
      refine s_when (et_B (ev_dnotin X'.rooms (h0 z hm) (ev_var rfl) (ev_rooms TH (ev_var rfl) X'))) (fun hb H2 e2 => s_raise (ev_neg ev_c) ((k4 ?_).go (ex.trans e2))) (fun hb H2 e2 => ⟨_, rfl, ex.trans e2, fun y hy => ?_⟩)
      · refine Bool.eq_false_iff.mpr fun q => ?_
        have := List.all_eq_true.mp q z hm
        rw [this] at hb; cases hb
      · obtain ⟨hi, rfl⟩ := List.getElem?_eq_some_iff.mp hz
        rw [List.take_succ_eq_append_getElem hi] at hy
        rcases List.mem_append.mp hy with hy | hy
        · exact hk y hy
        · obtain rfl := List.mem_singleton.mp hy
          exact of_decide_eq_true (by simpa using hb)
    · subst es
      rw [zs_len, List.take_length] at hk
      exact k0 (List.all_eq_true.mpr fun z hz => decide_eq_true (hk z hz)) H' ex
end
end Cw
namespace Cw
open PySem PySem.Spec PyProof.Rows L2 Evl
open PySem.RefX (RefTxt)
open Cm (keysM setN isW hasB roomSl goesIn keptToo isFreeB withoutPlace movedBy allSl freeOf goalsOf GoalsOk keysOf leastOf isProof proofsOf boundsOf coversOf)
/-! ### methods, classes made -/
structure DfnM (K : PySem.W.Frag) (C : Addr) (m qual : Str) (st : Stmt) (ps : List Str) : Prop where
  ex : ∃ (f : Addr) (fd : FuncData), Fun K m qual st f fd ∧ Meth K C m f ∧ Binds K fd ps []
structure Mtd (P : Program) (w : World) (K : PySem.W.Frag) (mg : Str → Option Value) (base : Heap) (k : Nat) (C : Addr) (m : Str) (sp : Sp) : Prop where
  ex : ∃ (f : Addr) (fd : FuncData) (ps : List Str), Cls K C ∧ Meth K C m f ∧ FnOk P w K mg base CX0 k f fd ps sp ∧ Binds K fd ps []
structure DfnI (K : PySem.W.Frag) (mg : Str → Option Value) (x : Str) (C : Addr) (qual : Str) (st : Stmt) (ps : List Str) : Prop where
  ex : ∃ (f : Addr) (fd : FuncData), Fun K "__init__" qual st f fd ∧ Mk K C f ∧ mg x = some (.ref C) ∧ Binds K fd ps []
structure Mkd (P : Program) (w : World) (K : PySem.W.Frag) (mg : Str → Option Value) (base : Heap) (k : Nat) (x : Str) (C : Addr) (sp : Sp) : Prop where
  ex : ∃ (f : Addr) (fd : FuncData) (ps : List Str), Mk K C f ∧ FnOk P w K mg base CX0 k f fd ps sp ∧ mg x = some (.ref C) ∧ Binds K fd ps []
section
variable {P : Program} {w : World} {K : PySem.W.Frag} {mg : Str → Option Value} {base : Heap} {x m qual : Str} {st : Stmt} {N ps : List Str} {k : Nat} {sp : Sp} {C : Addr}
theorem mtd_of (c : Cls K C) (D : DfnM K C m qual st ps) (S : FnScope N ps (defScope st)) (len : ∀ vs H Q E, sp vs H Q E → vs.length = ps.length)
    (hbody : ∀ (f : Addr) (cdv : Value) (A : Around) (outer : List Env) (s : Shared) (H : Hp) (vs : List V) (Q : VK) (E : XK), Room k (A.deeper (envOfC qual (defScope st) s.heap.objs.size f cdv)) → sp vs H Q E →
      ∃ t, PSs (cxOf CX0 P w K mg base N qual (defScope st) f cdv A outer s H E).nox (defBody st) t ∧ t { nx := fun _ H' => Q .non H', rt := Q } (start N vs) H) : Mtd P w K mg base (k + 1) C m sp := by
  obtain ⟨f, fd, F, g, b⟩ := D.ex
  exact ⟨f, fd, ps, c, g, F.ok S len (hbody f), b⟩
theorem mkd_of (D : DfnI K mg x C qual st ps) (S : FnScope N ps (defScope st)) (len : ∀ vs H Q E, sp vs H Q E → vs.length = ps.length)
    (hbody : ∀ (f : Addr) (cdv : Value) (A : Around) (outer : List Env) (s : Shared) (H : Hp) (vs : List V) (Q : VK) (E : XK), Room k (A.deeper (envOfC qual (defScope st) s.heap.objs.size f cdv)) → sp vs H Q E →
      ∃ t, PSs (cxOf CX0 P w K mg base N qual (defScope st) f cdv A outer s H E).nox (defBody st) t ∧ t { nx := fun _ H' => Q .non H', rt := Q } (start N vs) H) : Mkd P w K mg base (k + 1) x C sp := by
  obtain ⟨f, fd, F, M, g, b⟩ := D.ex
  exact ⟨f, fd, ps, M, F.ok S len (hbody f), g, b⟩
end
section
variable {X : Cx} {k j : Nat} {C : Addr} {x m : Str} {sp : Sp} {p pos apos : Pos} {e o : Expr} {es : List Expr} {ta : TE} {t : TA}
theorem pe_mtd {pl : Sem Bool} (c : Mtd X.prog X.w X.K X.mg X.base k C m sp) (hr : Room j X.A) (he : PE X o ta) (ha : PA X (e :: es) t) (hk : k ≤ j := by decide)
    (hst : starEach (e :: es) X.env = (false, eval e X.env) :: starEach es X.env := by rfl) (hpl : (backTo pos (starEach es X.env)).any (·.1) = false := by rfl)
    (ht : eval (.Call (.Attribute o m apos) (e :: es) [] pos) X.env = (do
      let ov ← eval o X.env
      standAt apos.atName
      let (f, first) ← holding [ov] (getMethod ov m pl)
      callWith pos f first (backTo pos (starEach (e :: es) X.env)) (backToKw pos (keywordEach [] X.env))) := by rfl) :
    PE X (.Call (.Attribute o m apos) (e :: es) [] pos) (tMeth C m sp [] E0 ta t) := by
  obtain ⟨f, fd, ps, hc, hm, F, b⟩ := c.ex
  exact pe_meth (pl := pl) he hc hm F (hr.mono hk) b .nil pass0 ha hst hpl ht
theorem pe_mkd (c : Mkd X.prog X.w X.K X.mg X.base k x C sp) (hr : Room j X.A) (ha : PA X (e :: es) t) (hk : k + 1 ≤ j := by decide) (hg : Gl X x := by rfl)
    (hdb : (x == ("__debug__" : Str)) = false := by decide) (he : starEach (e :: es) X.env = (false, eval e X.env) :: starEach es X.env := by rfl) (hpl : (backTo pos (starEach es X.env)).any (·.1) = false := by rfl) :
    PE X (.Call (.Name x p) (e :: es) [] pos) (tMake C sp [] E0 t) := by
  obtain ⟨f, fd, ps, M, F, hm, b⟩ := c.ex
  exact pe_make M F (hr.mono hk) hg hm b .nil pass0 ha hdb he hpl
theorem pe_mkd0 (c : Mkd X.prog X.w X.K X.mg X.base k x C sp) (hr : Room j X.A) (hk : k + 1 ≤ j := by decide) (hg : Gl X x := by rfl)
    (hdb : (x == ("__debug__" : Str)) = false := by decide) : PE X (.Call (.Name x p) [] [] pos) (tMake C sp [] E0 tNil) := by
  obtain ⟨f, fd, ps, M, F, hm, b⟩ := c.ex
  exact pe_make0 M F (hr.mono hk) hg hm b .nil pass0 hdb
end
section
variable {P : Program} {w : World} {K : PySem.W.Frag} {mg : Str → Option Value} {base : Heap} {C CH R fI : Addr}
/-! ### Client.__init__, House.__init__ -/
theorem put_here {f : Str} {v x : V} {r : List (Str × V)} : putF f v ((f, x) :: r) = (f, v) :: r := if_pos rfl
theorem put_past {f g : Str} {v x : V} {r : List (Str × V)} (h : ¬ g = f) : putF f v ((g, x) :: r) = (g, x) :: putF f v r := if_neg h
def spCInit (C : Addr) : Sp := fun vs H Q _ => ∃ (p dx t : Addr) (k o : V), vs = [.ref p, k, o, .ref t] ∧ H p = some (.ins C dx []) ∧
  ∀ H' : Hp, H' p = some (.ins C dx [("key", k), ("order", o), ("takers", .ref t)]) → (∀ b u, H b = some u → b ≠ p → H' b = some u) → Q .non H'
abbrev s_Client_init : Stmt := inClass (top 1) 0
abbrev N_Client_init : List Str := ["self", "key", "order", "takers"]
abbrev P_Client_init : List Str := ["self", "key", "order", "takers"]
theorem sc_Client_init : FnScope N_Client_init P_Client_init (defScope s_Client_init) := ⟨rfl, rfl, rfl, by decide +kernel, rfl, by decide +kernel, by decide +kernel⟩

theorem ok_Client (TC : ClsC K C) (D : DfnI K mg "Client" C "Client.__init__" s_Client_init P_Client_init) : Mkd P w K mg base 1 "Client" C (spCInit C) := by
  refine mkd_of D sc_Client_init (fun vs H Q E h => ?_) fun f cdv A outer s H vs Q E hr h => ?_
  · obtain ⟨a, b, c, d, e, rfl, _⟩ := h; rfl
  · refine ⟨_, (pss_cons (ps_fld (pv 0) (pv 1) rfl)
  (pss_cons (ps_fld (pv 0) (pv 2) rfl)
  (pss_one (ps_fld (pv 0) (pv 3) rfl)))), ?_⟩
    obtain ⟨p, dx, t, k, o, rfl, hp, q⟩ := h
    refine ⟨_, rfl, _, rfl, p, C, dx, [], rfl, hp, TC.cl, TC.nK, (by show 0 < 1000; decide), ?_⟩
    refine ⟨_, rfl, _, rfl, p, C, dx, _, rfl, upd_same, TC.cl, TC.nO, (by show 1 < 1000; decide), ?_⟩
    refine ⟨_, rfl, _, rfl, p, C, dx, _, rfl, upd_same, TC.cl, TC.nT, (by show 2 < 1000; decide), ?_⟩
    refine q _ ?_ fun b u e hb => by
      rw [upd_ne hb, upd_ne hb, upd_ne hb]
      exact e
    rw [upd_same]
    have e1 : putF ("key" : Str) k [] = [(("key" : Str), k)] := rfl
    have e2 : putF ("order" : Str) o [(("key" : Str), k)] = [(("key" : Str), k), (("order" : Str), o)] := (put_past (by decide +kernel)).trans rfl
    have e3 : putF ("takers" : Str) (V.ref t) [(("key" : Str), k), (("order" : Str), o)] = [(("key" : Str), k), (("order" : Str), o), (("takers" : Str), V.ref t)] := (put_past (by decide +kernel)).trans (congrArg _ ((put_past (by decide +kernel)).trans rfl))
    rw [e1, e2, e3]
def spHInit (C : Addr) : Sp := fun vs H Q _ => ∃ (p dx : Addr), vs = [.ref p] ∧ H p = some (.ins C dx []) ∧
  ∀ (H' : Hp) (rd cl : Addr), H rd = none → H cl = none → H' p = some (.ins C dx (hF rd cl)) → H' rd = some (.dK []) → H' cl = some (.lst []) → (∀ b u, H b = some u → b ≠ p → H' b = some u) → Q .non H'
abbrev s_House_init : Stmt := inClass (top 2) 0
abbrev N_House_init : List Str := ["self"]
abbrev P_House_init : List Str := ["self"]
theorem sc_House_init : FnScope N_House_init P_House_init (defScope s_House_init) := ⟨rfl, rfl, rfl, by decide +kernel, rfl, by decide +kernel, by decide +kernel⟩

theorem ok_House (TH : ClsH K C) (D : DfnI K mg "House" C "House.__init__" s_House_init P_House_init) : Mkd P w K mg base 1 "House" C (spHInit C) := by
  refine mkd_of D sc_House_init (fun vs H Q E h => ?_) fun f cdv A outer s H vs Q E hr h => ?_
  · obtain ⟨a, b, rfl, _⟩ := h; rfl
  · refine ⟨_, (pss_cons (ps_fld (pv 0) pe_dnewK rfl)
  (pss_one (ps_fld (pv 0) (pe_lst (by exact pa_nil)) rfl))), ?_⟩
    obtain ⟨p, dx, rfl, hp, q⟩ := h
    intro rd hrd
    have n1 : p ≠ rd := ne_of_none hp hrd
    refine ⟨_, rfl, p, C, dx, [], rfl, by rw [upd_ne n1]; exact hp, TH.cl, TH.nR, (by show 0 < 1000; decide), ?_⟩
    refine ⟨(by show 0 ≤ sizeLine; exact Nat.zero_le _), fun cl hcl => ?_⟩
    have hcl0 : H cl = none := by
      have n2 : cl ≠ p := fun z => by subst z; rw [upd_same] at hcl; cases hcl
      rw [upd_ne n2] at hcl
      have n3 : cl ≠ rd := fun z => by subst z; rw [upd_same] at hcl; cases hcl
      rwa [upd_ne n3] at hcl
    have n4 : p ≠ cl := ne_of_none hp hcl0
    have n5 : rd ≠ cl := by
      rintro rfl
      rw [upd_ne n1.symm, upd_same] at hcl; cases hcl
    refine ⟨_, rfl, p, C, dx, _, rfl, (by rw [upd_ne n4, upd_same]), TH.cl, TH.nC, (by show 1 < 1000; decide), ?_⟩
    refine q _ rd cl hrd hcl0 ?_ ?_ ?_ fun b u e hb => ?_
    · rw [upd_same]
      have e1 : putF ("rooms" : Str) (V.ref rd) [] = [(("rooms" : Str), V.ref rd)] := rfl
      have e2 : putF ("clients" : Str) (V.ref cl) [(("rooms" : Str), V.ref rd)] = hF rd cl := (put_past (by decide +kernel)).trans rfl
      rw [e1, e2]
    · rw [upd_ne n1.symm, upd_ne n5, upd_ne n1.symm]; exact upd_same
    · rw [upd_ne n4.symm]; exact upd_same
    · rw [upd_ne hb, upd_ne (ne_of_none e hcl0), upd_ne hb, upd_ne (ne_of_none e hrd)]; exact e
/-! ### House.client_of, known_client -/
def findL (L : List AC) (z : Int) : Option AC := L.find? fun x => decide ((x.2.key : Int) = z)
def refO : Option AC → V
  | some x => .ref x.1
  | none => .non
def spClientOf (CH C : Addr) : Sp := fun vs H Q _ => ∃ (h rd cl : Addr) (ms : List Mem) (L : List AC) (z : Int), vs = [.ref h, .int z] ∧ HsAt CH C H h rd cl ms L ∧ RetV (refO (findL L z)) H Q
abbrev s_House_client_of : Stmt := inClass (top 2) 1
abbrev N_House_client_of : List Str := ["self", "key", "client"]
abbrev P_House_client_of : List Str := ["self", "key"]
theorem sc_House_client_of : FnScope N_House_client_of P_House_client_of (defScope s_House_client_of) := ⟨rfl, rfl, rfl, by decide +kernel, rfl, by decide +kernel, by decide +kernel⟩

theorem find_take {L : List AC} {z : Int} {i : Nat} {x : AC} (hx : L[i]? = some x) (hn : findL (L.take i) z = none) : findL (L.take (i + 1)) z = if (x.2.key : Int) = z then some x else none := by
  obtain ⟨hi, rfl⟩ := List.getElem?_eq_some_iff.mp hx
  unfold findL at hn ⊢
  rw [List.take_succ_eq_append_getElem hi, List.find?_append, hn, Option.none_or, List.find?_cons]
  by_cases e : (L[i].2.key : Int) = z
  · rw [decide_eq_true e, if_pos e]
  · rw [decide_eq_false e, if_neg e]; rfl
theorem find_more {L : List AC} {z : Int} {i : Nat} {x : AC} (h : findL (L.take i) z = some x) : findL L z = some x := by
  unfold findL at h ⊢
  have : L = L.take i ++ L.drop i := (List.take_append_drop i L).symm
  rw [this, List.find?_append, h]; rfl
theorem ok_client_of (TH : ClsH K CH) (TC : ClsC K C) (D : DfnM K CH "client_of" "House.client_of" s_House_client_of P_House_client_of) : Mtd P w K mg base 1 CH "client_of" (spClientOf CH C) := by
  refine mtd_of TH.cl D sc_House_client_of (fun vs H Q E h => ?_) fun f cdv A outer s H vs Q E hr h => ?_
  · obtain ⟨a, b, c, d, e, g, rfl, _⟩ := h; rfl
  · refine ⟨_, (pss_cons (ps_for PassesOwn.never rfl (pi_list (pe_fld (pv 0) rfl)) (pg_name (i := 2) sc_House_client_of.nd rfl (Or.inl rfl))
  (pss_one (ps_if (pt_cmpR op_eq (pe_fld (pv 2) rfl) (pv 1) (nomark _)) (pss_one (ps_ret (pv 2))) pss_nil)))
  (pss_one (ps_ret pe_non))), ?_⟩
    obtain ⟨h, rd, cl, ms, L, z, rfl, X, k⟩ := h
    refine q_forLn (ev_clients TH (ev_var rfl) X) (sq_of X.lst) (fun i σ' H' => ∃ v2, σ' = [some (.ref h), some (.int z), v2] ∧ Ex H H' ∧ findL (L.take i) z = none) (fun H2 e2 => ⟨none, rfl, e2, rfl⟩) (fun i σ' H' hi ⟨_, _, ex, _⟩ => sq_of (X.ext ex).lst) (fun i x σ' H' hx ⟨v1, es, ex, hk⟩ => ?_) (fun σ' H' ⟨v1, es, ex, hk⟩ => ?_)
    · subst es
      obtain ⟨y, hy, rfl, hyL⟩ := refs_at hx
      have X' := X.ext ex
      have hft := find_take hy hk
      refine s_when (et_op (ev_key TC (ev_var rfl) (X'.ok.at_ y hyL)) (ev_var rfl) (rv_eqI _ _)) (fun hb H2 e2 => ?_) (fun hb H2 e2 => ?_)
      · rw [if_pos (of_decide_eq_true hb)] at hft
        refine s_ret (ev_var rfl) fun H3 e3 => ?_
        have := k H3 ((ex.trans e2).trans e3)
        rw [find_more hft] at this
        exact this
      · rw [if_neg (of_decide_eq_false hb)] at hft
        exact ⟨_, rfl, ex.trans e2, hft⟩
    · subst es
      rw [refs_len, List.take_length] at hk
      rw [hk] at k
      exact s_ret ev_c fun H2 e2 => k H2 (ex.trans e2)
def spKnown (CH C R : Addr) : Sp := fun vs H Q E => ∃ (h rd cl : Addr) (ms : List Mem) (L : List AC) (z : Int), vs = [.ref h, .int z] ∧ HsAt CH C H h rd cl ms L ∧
  (findL L z = none → Rs R E H (-4)) ∧ (∀ x, findL L z = some x → RetV (.ref x.1) H Q)
abbrev s_known_client : Stmt := top 12
abbrev N_known_client : List Str := ["house", "key", "client"]
abbrev P_known_client : List Str := ["house", "key"]
theorem sc_known_client : FnScope N_known_client P_known_client (defScope s_known_client) := ⟨rfl, rfl, rfl, by decide +kernel, rfl, by decide +kernel, by decide +kernel⟩

theorem ev_meth {σ : L2.St} {H : Hp} {te : TE} {ta : TA} {h dx C : Addr} {fs : List (Str × V)} {m : Str} {sp : Sp} {E : XK} {z : V} (he : Ev te σ H (.ref h)) (ho : H h = some (.ins C dx fs)) (hl : fs.lookup m = none) (ha : EvAs ta σ H fun vs H1 => SpV sp (.ref h :: (vs ++ [])) H1 z) :
    Ev (tMeth C m sp [] E te ta) σ H z := fun H1 e Q q => he H1 e _ fun H2 e2 => ⟨h, dx, fs, rfl, e2 _ _ (e _ _ ho), hl, ha H2 (e.trans e2) _ fun vs H3 e3 p => p H3 (Ex.refl H3) Q (fun H4 e4 => q H4 ((e2.trans e3).trans e4)) E⟩
theorem ev_isN {σ : L2.St} {H : Hp} {te : TE} {v : V} (h : Ev te σ H v) : Ev (tIsN te) σ H (.bl (decide (v = .non))) := fun H1 e Q q => h H1 e _ q
theorem ev_notN {σ : L2.St} {H : Hp} {te : TE} {v : V} (h : Ev te σ H v) : Ev (tNotN te) σ H (.bl (!decide (v = .non))) := fun H1 e Q q => h H1 e _ q
/-- house.client_of(key) -/
theorem ev_clientOf {σ : L2.St} {H : Hp} {te tz : TE} {h rd cl : Addr} {ms : List Mem} {L : List AC} {z : Int} {E : XK} (he : Ev te σ H (.ref h)) (hz : Ev tz σ H (.int z)) (X : HsAt CH C H h rd cl ms L) : Ev (tMeth CH "client_of" (spClientOf CH C) [] E te (tCons tz tNil)) σ H (refO (findL L z)) := by
  obtain ⟨dx, ho⟩ := X.obj
  exact ev_meth he ho (hF_client_of rd cl) (as_v hz (as_nil fun H1 e => fun H2 e2 Q q E => ⟨h, rd, cl, ms, L, z, rfl, X.ext (e.trans e2), q⟩))
theorem ok_known_client (TR : RefTxt K mg R fI) (D : Dfn K mg "known_client" s_known_client P_known_client) (c_client_of : Mtd P w K mg base 1 CH "client_of" (spClientOf CH C)) : CalX P w K mg base 3 "known_client" (spKnown CH C R) := by
  refine calX_of D sc_known_client (fun vs H Q E h => ?_) fun f cdv A outer s H vs Q E hr h => ?_
  · obtain ⟨a, b, c, d, e, g, rfl, _⟩ := h; rfl
  · refine ⟨_, (pss_cons (ps_set (i := 2) sc_known_client.nd rfl (Or.inl rfl) (pe_mtd c_client_of hr (pv 0) (by exact (pa_cons (pv 1) pa_nil))))
  (pss_cons (ps_if (pt_cmp (pc_isN (pv 2))) (pss_one (ps_raiseRef rfl TR hr (takes_of rfl rfl rfl rfl) (by exact (pa_cons (pe_un un_neg pe_int) pa_nil)))) pss_nil)
  (pss_one (ps_ret (pv 2))))), ?_⟩
    obtain ⟨h, rd, cl, ms, L, z, rfl, X, k4, k0⟩ := h
    refine q_asg (ev_clientOf (ev_var rfl) (ev_var rfl) X) fun H1 e1 => ?_
    refine q_when (et_B (ev_isN (ev_var rfl))) (fun hb H2 e2 => s_raise (ev_neg ev_c) ((k4 ?_).go (e1.trans e2))) (fun hb H2 e2 => ?_)
    · cases q : findL L z with
      | none => rfl
      | some x => rw [q] at hb; cases hb
    · cases q : findL L z with
      | none => rw [q] at hb; cases hb
      | some x => exact s_ret (ev_var rfl) fun H3 e3 => k0 x q H3 ((e1.trans e2).trans e3)
/-! ### in_order, moved_clients -/
def spOrder (K : PySem.W.Frag) (C : Addr) : Sp := fun vs H Q _ => ∃ (a : Addr) (L : List AC), vs = [.ref a] ∧ SqL K H a (refs L) ∧ L.length ≤ 100 ∧ (∀ x ∈ L, ClAt C H x.1 x.2) ∧ RetL (refs (ordL L)) H Q
theorem sl_order {H : Hp} {a : Addr} {L : List AC} (h : SqL K H a (refs L)) (hn : L.length ≤ 100) (hc : ∀ x ∈ L, ClAt C H x.1 x.2) : SpL (spOrder K C) [.ref a] H (refs (ordL L)) := fun _ e _ q _ => ⟨a, L, rfl, ex_l e h, hn, fun x hx => (hc x hx).ext e, q⟩
abbrev s_in_order : Stmt := top 4
abbrev N_in_order : List Str := ["clients"]
abbrev P_in_order : List Str := ["clients"]
theorem sc_in_order : FnScope N_in_order P_in_order (defScope s_in_order) := ⟨rfl, rfl, rfl, by decide +kernel, rfl, by decide +kernel, by decide +kernel⟩

theorem ok_in_order (TC : ClsC K C) (B : Blt mg) (D : Dfn K mg "in_order" s_in_order P_in_order) (DP : Dfn K mg "place_in_order" s_place_in_order P_place_in_order) : Cal P w K mg base 4 "in_order" (spOrder K C) := by
  obtain ⟨fp, fdp, FP, gP, _⟩ := DP.ex
  refine cal_of D sc_in_order (fun vs H Q E h => ?_) fun f cdv A outer s H vs Q E hr h => ?_
  · obtain ⟨a, b, rfl, _⟩ := h; rfl
  · refine ⟨_, (pss_one (ps_ret (pe_callBK (cr_sortedPl FP TC hr) (by rfl) B.sorted (by decide +kernel) (by exact (pa_cons (pv 0) pa_nil)) (pk_cons (pe_glob (v := V.ref fp) rfl gP rfl) pk_nil)))), ?_⟩
    obtain ⟨a, L, rfl, hs, hn, hc, k⟩ := h
    exact ⟨_, rfl, a, L, rfl, rfl, hs, hn, hc, fun p hp H' e h' => k p H' hp e h'⟩
theorem ordL_perm (L : List AC) : (ordL L).Perm L := List.mergeSort_perm L cLe
theorem ordL_len (L : List AC) : (ordL L).length = L.length := (ordL_perm L).length_eq
theorem LOk.ord {H : Hp} {ks : List Nat} {L : List AC} (h : LOk C H ks L) : LOk C H ks (ordL L) := h.sub (fun x hx => (ordL_perm L).mem_iff.mp hx) (by rw [ordL_len]; exact h.few)
theorem fold_sub (ks : List Nat) : ∀ (l : List AC) (st : List Int × List AC), ∃ e, (l.foldl (mvStep ks) st).2 = st.2 ++ e ∧ e.Sublist l
  | [], st => ⟨[], by simp, .slnil⟩
  | x :: l, st => by
    obtain ⟨e, h1, h2⟩ := fold_sub ks l (mvStep ks st x)
    rw [List.foldl_cons, h1]
    unfold mvStep
    split
    · exact ⟨x :: e, by simp, h2.cons_cons x⟩
    · exact ⟨e, rfl, h2.cons x⟩
theorem movL_sub (ms : List Mem) (L : List AC) : (movL ms L).Sublist L := by
  unfold movL
  rw [movedBy_fold]
  obtain ⟨e, h1, h2⟩ := fold_sub (keysM ms) L (roomSl ms, [])
  rw [h1]; exact h2
theorem LOk.mov {H : Hp} {ks : List Nat} {L : List AC} (h : LOk C H ks L) (ms : List Mem) : LOk C H ks (movL ms L) := h.sub (fun x hx => (movL_sub ms L).subset hx) (Nat.le_trans (movL_sub ms L).length_le h.few)
def spMovedC (CH C : Addr) : Sp := fun vs H Q _ => ∃ (h rd cl : Addr) (ms : List Mem) (L : List AC), vs = [.ref h] ∧ HsAt CH C H h rd cl ms L ∧ RetL (refs (movL ms (ordL L))) H Q
theorem sl_movedC {H : Hp} {h rd cl : Addr} {ms : List Mem} {L : List AC} (X : HsAt CH C H h rd cl ms L) : SpL (spMovedC CH C) [.ref h] H (refs (movL ms (ordL L))) := fun _ e _ q _ => ⟨h, rd, cl, ms, L, rfl, X.ext e, q⟩
/-- in_order(house.clients) -/
theorem el_order {σ : L2.St} {H : Hp} {te : TE} {h rd cl : Addr} {ms : List Mem} {L : List AC} {E : XK} (TH : ClsH K CH) (he : Ev te σ H (.ref h)) (X : HsAt CH C H h rd cl ms L) : EvL (tCall (spOrder K C) [] E (tCons (tFld K te "clients") tNil)) σ H (refs (ordL L)) :=
  el_cal (as_v (ev_clients TH he X) (as_nil fun H1 e => sl_order (sq_of (X.ext e).lst) X.ok.few (X.ext e).ok.at_))
theorem el_movedC {σ : L2.St} {H : Hp} {te : TE} {h rd cl : Addr} {ms : List Mem} {L : List AC} {E : XK} (he : Ev te σ H (.ref h)) (X : HsAt CH C H h rd cl ms L) : EvL (tCall (spMovedC CH C) [] E (tCons te tNil)) σ H (refs (movL ms (ordL L))) :=
  el_cal (as_v he (as_nil fun H1 e => sl_movedC (X.ext e)))
abbrev s_moved_clients : Stmt := top 23
abbrev N_moved_clients : List Str := ["house"]
abbrev P_moved_clients : List Str := ["house"]
theorem sc_moved_clients : FnScope N_moved_clients P_moved_clients (defScope s_moved_clients) := ⟨rfl, rfl, rfl, by decide +kernel, rfl, by decide +kernel, by decide +kernel⟩

theorem ok_moved_clients (TH : ClsH K CH) (D : Dfn K mg "moved_clients" s_moved_clients P_moved_clients) (c_in_order : Cal P w K mg base 4 "in_order" (spOrder K C)) (c_moved_among : Cal P w K mg base 3 "moved_among" (spMoved K C)) :
    Cal P w K mg base 5 "moved_clients" (spMovedC CH C) := by
  refine cal_of D sc_moved_clients (fun vs H Q E h => ?_) fun f cdv A outer s H vs Q E hr h => ?_
  · obtain ⟨a, b, c, d, e, rfl, _⟩ := h; rfl
  · refine ⟨_, (pss_one (ps_ret (pe_d c_moved_among hr (by exact (pa_cons (pe_fld (pv 0) rfl) (pa_cons (pe_d c_in_order hr (by exact (pa_cons (pe_fld (pv 0) rfl) pa_nil))) pa_nil)))))), ?_⟩
    obtain ⟨h, rd, cl, ms, L, rfl, X, k⟩ := h
    exact s_retL (el_cal (as_v (ev_rooms TH (ev_var rfl) X) (as_L (el_order TH (ev_var rfl) X) fun p H1 e1 h1 => as_nil fun H2 e2 => sl_moved (X.rooms.ext (e1.trans e2)) (sq_of (e2 _ _ h1)) ((X.ok.ext (e1.trans e2)).ord)))) k
end
end Cw
namespace Cw
open PySem PySem.Spec PyProof.Rows L2 Evl
open PySem.RefX (RefTxt)
open Cm (keysM setN isW hasB roomSl goesIn keptToo isFreeB withoutPlace movedBy allSl freeOf goalsOf GoalsOk keysOf leastOf isProof proofsOf boundsOf coversOf)
def keysA (L : List AC) : List Nat := L.map fun x => x.2.key
def befL (L : List AC) (c : Cli) : List AC := (ordL L).take ((keysA (ordL L)).idxOf c.key)
def ownsA (ks : List Nat) (L : List AC) : List Nat := L.map fun x => setN ks x.2.takers
def othersOf (ms : List Mem) (L : List AC) (c : Cli) : List Nat := ownsA (keysM ms) ((movL ms (ordL L)).filter fun y => decide (y.2.key ∈ keysA (befL L c)))
theorem keysA_len (L : List AC) : (keysA L).length = L.length := List.length_map ..
section
variable {K : PySem.W.Frag} {σ : L2.St} {H : Hp} {te to : TE} {C : Addr}
theorem cut_take {xs : List V} {n : Nat} (h : n ≤ xs.length) : cutV xs none (some (n : Int)) = xs.take n := by
  unfold cutV
  have e1 : HT.sIx xs.length 0 none = 0 := rfl
  have e2 : HT.sIx xs.length xs.length (some (n : Int)) = n := by
    have q := HT.sIx_nat xs.length xs.length n
    first
      | (rw [q]; omega)
      | (simp only [q]; omega)
  rw [e1, e2, List.drop_zero, Nat.sub_zero]
/-- xs.index(k), xs a list just made -/
theorem ev_indexN {ks : List Nat} {k : Nat} (ho : EvL to σ H (nats ks)) (hk : k ∈ ks) (he : ∀ H1, Ex H H1 → Ev te σ H1 (nV k)) : Ev (tBM K "list" (rIndex K) to (tCons te tNil)) σ H (nV (ks.idxOf k)) := fun H1 e Q q =>
  ho H1 e _ fun p H2 hp e2 h2 => ev_index (K := K) (σ := σ) (to := fun _ H Q => Q (.ref p) H) (H := H2) (fun H3 e3 Q q => q H3 (Ex.refl H3)) (sq_of h2) hk (he H2 (e.trans e2)) H2 (Ex.refl H2) Q fun H3 e3 => q H3 (e2.trans e3)
/-- [x.key for x in xs] -/
theorem el_keys {L : List AC} {a : Addr} {tl : TE} {j : Nat} {vs : List Nat} (TC : ClsC K C) (hn : L.length ≤ 100) (hc : ∀ x ∈ L, ClAt C H x.1 x.2) (hl : Ev tl σ H (.ref a)) (hx : SqL K H a (refs L)) (hw : ∀ x, wipe ((wipe σ vs).set j (some x)) vs = wipe σ vs) (hv : ∀ v, ((wipe σ vs).set j (some v))[j]? = some (some v)) :
    EvL (tLc (iList K tl) (gName j) tYes (tFld K (tVar j) "key") vs) σ H (nats (keysA L)) := by
  have := el_lcM (K := K) (t := tYes) (te := tFld K (tVar j) "key") L (fun x => V.ref x.1) (fun x => nV x.2.key) (fun _ => true) hl hx (by omega) hw (fun _ _ _ _ => et_yes) fun x hx H1 e _ => ev_key TC (ev_var (hv _)) ((hc x hx).ext e)
  rw [filter_true] at this
  unfold nats keysA
  rw [List.map_map]
  exact this
theorem el_keysN {L : List AC} {tl : TE} {j : Nat} {vs : List Nat} (TC : ClsC K C) (hn : L.length ≤ 100) (hc : ∀ x ∈ L, ClAt C H x.1 x.2) (hl : EvL tl σ H (refs L)) (hw : ∀ x, wipe ((wipe σ vs).set j (some x)) vs = wipe σ vs) (hv : ∀ v, ((wipe σ vs).set j (some v))[j]? = some (some v)) :
    EvL (tLc (iList K tl) (gName j) tYes (tFld K (tVar j) "key") vs) σ H (nats (keysA L)) := by
  have := el_lcNM (K := K) (t := tYes) (te := tFld K (tVar j) "key") L (fun x => V.ref x.1) (fun x => nV x.2.key) (fun _ => true) hl (by omega) hw (fun _ _ _ _ => et_yes) fun x hx H1 e _ => ev_key TC (ev_var (hv _)) ((hc x hx).ext e)
  rw [filter_true] at this
  unfold nats keysA
  rw [List.map_map]
  exact this
end
section
variable {P : Program} {w : World} {K : PySem.W.Frag} {mg : Str → Option Value} {base : Heap} {C CH R fI : Addr}
/-! ### clients_before, moved_before -/
def spBefore (CH C : Addr) : Sp := fun vs H Q _ => ∃ (h rd cl : Addr) (ms : List Mem) (L : List AC) (x : AC), vs = [.ref h, .ref x.1] ∧ HsAt CH C H h rd cl ms L ∧ x ∈ L ∧ RetL (refs (befL L x.2)) H Q
abbrev s_clients_before : Stmt := top 30
abbrev N_clients_before : List Str := ["house", "client", "every", "other"]
abbrev P_clients_before : List Str := ["house", "client"]
theorem sc_clients_before : FnScope N_clients_before P_clients_before (defScope s_clients_before) := ⟨rfl, rfl, rfl, by decide +kernel, rfl, by decide +kernel, by decide +kernel⟩

theorem ok_clients_before (TH : ClsH K CH) (TC : ClsC K C) (D : Dfn K mg "clients_before" s_clients_before P_clients_before) (c_in_order : Cal P w K mg base 4 "in_order" (spOrder K C)) : Cal P w K mg base 5 "clients_before" (spBefore CH C) := by
  refine cal_of D sc_clients_before (fun vs H Q E h => ?_) fun f cdv A outer s H vs Q E hr h => ?_
  · obtain ⟨a, b, c, d, e, g, rfl, _⟩ := h; rfl
  · refine ⟨_, (pss_cons (ps_set (i := 2) sc_clients_before.nd rfl (Or.inl rfl) (pe_d c_in_order hr (by exact (pa_cons (pe_fld (pv 0) rfl) pa_nil))))
  (pss_one (ps_ret (pe_slice sl_list (pv 2) po_none (po_some (pe_bm PySem.F.plainAttrs_list PySem.F.slot_list_index PySem.F.type_list_index mt_index (pe_lc (own := [("other", 3)]) (g := gName 3) rfl sc_clients_before.nd (pi_list (pv 2)) (blkOk_by (N := N_clients_before) (sc := defScope s_clients_before) (by decide +kernel)) (fun _ _ _ _ _ => by exact (pg_name (i := 3) sc_clients_before.nd rfl (Or.inl rfl))) (fun _ _ _ _ _ => by exact pts_nil) (fun _ _ _ _ _ => by exact (pe_fldK (K := K) rfl (pv 3) rfl))) (by exact (pa_cons (pe_fld (pv 1) rfl) pa_nil)))))))), ?_⟩
    obtain ⟨h, rd, cl, ms, L, x, rfl, X, hx, k⟩ := h
    refine q_asgL (el_order TH (ev_var rfl) X) fun p H1 hp e1 h1 => ?_
    have X1 := X.ext e1
    have hk : x.2.key ∈ keysA (ordL L) := List.mem_map.mpr ⟨x, (ordL_perm L).mem_iff.mpr hx, rfl⟩
    have hi := List.idxOf_lt_length_of_mem hk
    rw [keysA_len] at hi
    refine s_retL (el_to (el_sl (ev_var rfl) eo_none (eo_some (ev_indexN (el_keys TC (by rw [ordL_len]; exact X.ok.few) X1.ok.ord.at_ (ev_var rfl) (sq_of h1) (fun _ => rfl) (fun _ => rfl)) hk fun H2 e2 => ev_key TC (ev_var rfl) ((X1.ok.at_ x hx).ext e2))) (sq_of h1)) ?_) fun q H2 hq e2 h2 => k q H2 (fresh_back e1 hq) (e1.trans e2) h2
    rw [cut_take (by rw [refs_len]; omega)]
    unfold befL refs
    rw [List.map_take]
def spMovedB (CH C : Addr) : Sp := fun vs H Q _ => ∃ (h rd cl : Addr) (ms : List Mem) (L : List AC) (x : AC), vs = [.ref h, .ref x.1] ∧ HsAt CH C H h rd cl ms L ∧ x ∈ L ∧ RetL (nats (othersOf ms L x.2)) H Q
theorem sl_movedB {H : Hp} {h rd cl : Addr} {ms : List Mem} {L : List AC} {x : AC} (X : HsAt CH C H h rd cl ms L) (hx : x ∈ L) : SpL (spMovedB CH C) [.ref h, .ref x.1] H (nats (othersOf ms L x.2)) := fun _ e _ q _ => ⟨h, rd, cl, ms, L, x, rfl, X.ext e, hx, q⟩
abbrev s_moved_before : Stmt := top 31
abbrev N_moved_before : List Str := ["house", "client", "before", "members", "other"]
abbrev P_moved_before : List Str := ["house", "client"]
theorem sc_moved_before : FnScope N_moved_before P_moved_before (defScope s_moved_before) := ⟨rfl, rfl, rfl, by decide +kernel, rfl, by decide +kernel, by decide +kernel⟩

theorem ok_moved_before (TH : ClsH K CH) (TC : ClsC K C) (D : Dfn K mg "moved_before" s_moved_before P_moved_before) (c_clients_before : Cal P w K mg base 5 "clients_before" (spBefore CH C))
    (c_members_of : Cal P w K mg base 1 "members_of" spMembers) (c_moved_clients : Cal P w K mg base 5 "moved_clients" (spMovedC CH C)) (c_set_of : Cal P w K mg base 2 "set_of" (spSetOf K)) :
    Cal P w K mg base 6 "moved_before" (spMovedB CH C) := by
  refine cal_of D sc_moved_before (fun vs H Q E h => ?_) fun f cdv A outer s H vs Q E hr h => ?_
  · obtain ⟨a, b, c, d, e, g, rfl, _⟩ := h; rfl
  · refine ⟨_, (pss_cons (ps_set (i := 2) sc_moved_before.nd rfl (Or.inr rfl) (pe_lc (own := [("other", 4)]) (g := gName 4) rfl sc_moved_before.nd (pi_list (pe_d c_clients_before hr (by exact (pa_cons (pv 0) (pa_cons (pv 1) pa_nil))))) (blkOk_by (N := N_moved_before) (sc := defScope s_moved_before) (by decide +kernel)) (fun _ _ _ _ _ => by exact (pg_name (i := 4) sc_moved_before.nd rfl (Or.inl rfl))) (fun _ _ _ _ _ => by exact pts_nil) (fun _ _ _ _ _ => by exact (pe_fldK (K := K) rfl (pv 4) rfl))))
  (pss_cons (ps_set (i := 3) sc_moved_before.nd rfl (Or.inr rfl) (pe_d c_members_of hr (by exact (pa_cons (pe_fld (pv 0) rfl) pa_nil))))
  (pss_one (ps_ret (pe_lc (own := [("other", 4)]) (g := gName 4) rfl sc_moved_before.nd (pi_list (pe_d c_moved_clients hr (by exact (pa_cons (pv 0) pa_nil)))) (blkOk_by (N := N_moved_before) (sc := defScope s_moved_before) (by decide +kernel)) (fun _ _ _ _ _ => by exact (pg_name (i := 4) sc_moved_before.nd rfl (Or.inl rfl))) (fun _ _ _ _ _ => by exact (pts_one (pt_cmpR (op_inK (K := K) rfl) (pe_fldK (K := K) rfl (pv 4) rfl) (pv 2) (by rfl)))) (fun _ _ _ _ _ => by exact (pe_d c_set_of hr (by exact (pa_cons (pv 3) (pa_cons (pe_fldK (K := K) rfl (pv 4) rfl) pa_nil)))))))))), ?_⟩
    obtain ⟨h, rd, cl, ms, L, x, rfl, X, hx, k⟩ := h
    have h8 : (keysM ms).length ≤ 1000 := by rw [keys_len]; have := X.rooms.few; omega
    have hbs : ∀ y ∈ befL L x.2, y ∈ L := fun y hy => (ordL_perm L).mem_iff.mp (List.mem_of_mem_take hy)
    have hbl : (befL L x.2).length ≤ 100 := by
      unfold befL
      rw [List.length_take, ordL_len]
      have := X.ok.few; omega
    refine q_asgL (el_keysN (L := befL L x.2) TC hbl (fun y hy => X.ok.at_ y (hbs y hy)) (el_cal (as_v (ev_var rfl) (as_v (ev_var rfl) (as_nil fun H1 e => fun H2 e2 Q q E => ⟨h, rd, cl, ms, L, x, rfl, X.ext (e.trans e2), hx, q⟩)))) (fun _ => rfl) (fun _ => rfl)) fun p H1 hp e1 h1 => ?_
    refine q_asgL (el_cal (as_v (ev_rooms TH (ev_var rfl) (X.ext e1)) (as_nil fun H2 e => sl_members ((X.ext e1).ext e).rooms))) fun q H2 hq e2 h2 => ?_
    have X2 := X.ext (e1.trans e2)
    have okM := X2.ok.ord.mov ms
    refine s_retL (el_to (el_lcNM (movL ms (ordL L)) (fun y => V.ref y.1) (fun y => nV (setN (keysM ms) y.2.takers)) (fun y => decide (y.2.key ∈ keysA (befL L x.2))) (el_movedC (ev_var rfl) X2) (by have := okM.few; omega) (fun _ => rfl)
      (fun y hy H3 e3 => et_test (ev_inN (ev_key TC (ev_var rfl) ((okM.ext e3).at_ y hy)) (ev_var rfl) (sq_of ((e2.trans e3) _ _ h1))))
      fun y hy H3 e3 _ => ev_own TC (ev_var rfl) (sq_of (e3 _ _ h2)) h8 (ev_var rfl) ((okM.ext e3).at_ y hy) (okM.tk y hy) (okM.tl y hy)) ?_) fun r H3 hr3 e3 h3 => k r H3 (fresh_back (e1.trans e2) hr3) ((e1.trans e2).trans e3) h3
    unfold othersOf ownsA nats
    rw [List.map_map]; rfl
/-! ### is_proof -/
def spIsProof (K : PySem.W.Frag) : Sp := fun vs H Q _ => ∃ (X own : Nat) (a : Addr) (os : List Nat) (room : Int), vs = [nV X, nV own, .ref a, .int room] ∧ SqL K H a (nats os) ∧ os.length ≤ 1000 ∧ RetV (.bl (isProof X own os room)) H Q
theorem sv_isProof {H : Hp} {X own : Nat} {a : Addr} {os : List Nat} {room : Int} (h : SqL K H a (nats os)) (hn : os.length ≤ 1000) : SpV (spIsProof K) [nV X, nV own, .ref a, .int room] H (.bl (isProof X own os room)) := fun _ e _ q _ => ⟨X, own, a, os, room, rfl, ex_l e h, hn, q⟩
abbrev s_is_proof : Stmt := top 32
abbrev N_is_proof : List Str := ["chosen", "own", "others", "room", "other"]
abbrev P_is_proof : List Str := ["chosen", "own", "others", "room"]
theorem sc_is_proof : FnScope N_is_proof P_is_proof (defScope s_is_proof) := ⟨rfl, rfl, rfl, by decide +kernel, rfl, by decide +kernel, by decide +kernel⟩

theorem ok_is_proof (B : Blt mg) (D : Dfn K mg "is_proof" s_is_proof P_is_proof) (c_is_within : Cal P w K mg base 1 "is_within" spWithin) : Cal P w K mg base 2 "is_proof" (spIsProof K) := by
  refine cal_of D sc_is_proof (fun vs H Q E h => ?_) fun f cdv A outer s H vs Q E hr h => ?_
  · obtain ⟨a, b, c, d, e, rfl, _⟩ := h; rfl
  · refine ⟨_, (pss_one (ps_ret (pe_and (pe_d c_is_within hr (by exact (pa_cons (pv 1) (pa_cons (pv 0) pa_nil)))) (pe_one (pe_cmpR op_eq (pe_callB call_len_seq (by rfl) B.len (by decide +kernel) (by exact (pa_cons (pe_lc (own := [("other", 4)]) (g := gName 4) rfl sc_is_proof.nd (pi_list (pv 2)) (blkOk_by (N := N_is_proof) (sc := defScope s_is_proof) (by decide +kernel)) (fun _ _ _ _ _ => by exact (pg_name (i := 4) sc_is_proof.nd rfl (Or.inl rfl))) (fun _ _ _ _ _ => by exact (pts_one (pt_val (pe_d c_is_within hr (by exact (pa_cons (pv 4) (pa_cons (pv 0) pa_nil))))))) (fun _ _ _ _ _ => by exact (pv 4))) pa_nil))) (pv 3) (nomark _)))))), ?_⟩
    obtain ⟨X, own, a, os, room, rfl, hs, hn, k⟩ := h
    refine s_ret (ev_andV (ev_within (ev_var rfl) (ev_var rfl)) fun _ => ev_op (ev_lenN (el_lcM os nV nV (fun o => isW o X) (ev_var rfl) hs (by omega) (fun _ => rfl) (fun o _ H1 e => et_B (ev_within (ev_var rfl) (ev_var rfl))) fun o _ H1 e _ => ev_var rfl)) (ev_var rfl) ?_) k
    rw [List.length_map]
    exact rv_eqI _ _
/-! ### proves -/
def spProves (CH C : Addr) : Sp := fun vs H Q _ => ∃ (h rd cl : Addr) (ms : List Mem) (L : List AC) (x : AC) (X : Nat), vs = [.ref h, .ref x.1, nV X] ∧ HsAt CH C H h rd cl ms L ∧ x ∈ L ∧ X < (roomSl ms).length ∧
  RetV (.bl (isProof X (setN (keysM ms) x.2.takers) (othersOf ms L x.2) ((roomSl ms).getD X 0))) H Q
theorem others_few {H : Hp} {h rd cl : Addr} {ms : List Mem} {L : List AC} (X : HsAt CH C H h rd cl ms L) (c : Cli) : (othersOf ms L c).length ≤ 1000 := by
  unfold othersOf ownsA
  rw [List.length_map]
  have := List.length_filter_le (fun y : AC => decide (y.2.key ∈ keysA (befL L c))) (movL ms (ordL L))
  have := (X.ok.ord.mov ms).few
  omega
/-- set_of(members_of(house.rooms), ..) -/
theorem ev_setH {σ : L2.St} {H : Hp} {te tt : TE} {h rd cl t : Addr} {ms : List Mem} {L : List AC} {ts : List Nat} {E E' : XK} (TH : ClsH K CH) (X : HsAt CH C H h rd cl ms L) (he : Ev te σ H (.ref h)) (ht : Ev tt σ H (.ref t)) (hts : SqL K H t (nats ts)) (hk : ∀ k ∈ ts, k ∈ keysM ms) (hn : ts.length ≤ 1000) :
    Ev (tCall (spSetOf K) [] E (tCons (tCall spMembers [] E' (tCons (tFld K te "rooms") tNil)) (tCons tt tNil))) σ H (nV (setN (keysM ms) ts)) := by
  have h8 : (keysM ms).length ≤ 1000 := by rw [keys_len]; have := X.rooms.few; omega
  exact ev_cal (as_L (el_cal (as_v (ev_rooms TH he X) (as_nil fun H2 e => sl_members (X.ext e).rooms))) fun p H1 e1 h1 => as_v (ht.mono e1) (as_nil fun H2 e2 => sv_set (sq_of (e2 _ _ h1)) (ex_l (e1.trans e2) hts) h8 hn hk))
theorem el_roomsH {σ : L2.St} {H : Hp} {te : TE} {h rd cl : Addr} {ms : List Mem} {L : List AC} {E : XK} (TH : ClsH K CH) (X : HsAt CH C H h rd cl ms L) (he : Ev te σ H (.ref h)) : EvL (tCall spRooms [] E (tCons (tFld K te "rooms") tNil)) σ H (zs (roomSl ms)) :=
  el_cal (as_v (ev_rooms TH he X) (as_nil fun H2 e => sl_rooms (X.ext e).rooms))
abbrev s_proves : Stmt := top 33
abbrev N_proves : List Str := ["house", "client", "chosen", "own"]
abbrev P_proves : List Str := ["house", "client", "chosen"]
theorem sc_proves : FnScope N_proves P_proves (defScope s_proves) := ⟨rfl, rfl, rfl, by decide +kernel, rfl, by decide +kernel, by decide +kernel⟩

theorem ok_proves (TH : ClsH K CH) (TC : ClsC K C) (D : Dfn K mg "proves" s_proves P_proves) (c_members_of : Cal P w K mg base 1 "members_of" spMembers) (c_set_of : Cal P w K mg base 2 "set_of" (spSetOf K))
    (c_moved_before : Cal P w K mg base 6 "moved_before" (spMovedB CH C)) (c_room_slacks : Cal P w K mg base 2 "room_slacks" spRooms) (c_is_proof : Cal P w K mg base 2 "is_proof" (spIsProof K)) :
    Cal P w K mg base 7 "proves" (spProves CH C) := by
  refine cal_of D sc_proves (fun vs H Q E h => ?_) fun f cdv A outer s H vs Q E hr h => ?_
  · obtain ⟨a, b, c, d, e, g, i, rfl, _⟩ := h; rfl
  · refine ⟨_, (pss_cons (ps_set (i := 3) sc_proves.nd rfl (Or.inl rfl) (pe_d c_set_of hr (by exact (pa_cons (pe_d c_members_of hr (by exact (pa_cons (pe_fld (pv 0) rfl) pa_nil))) (pa_cons (pe_fld (pv 1) rfl) pa_nil)))))
  (pss_one (ps_ret (pe_d c_is_proof hr (by exact (pa_cons (pv 2) (pa_cons (pv 3) (pa_cons (pe_d c_moved_before hr (by exact (pa_cons (pv 0) (pa_cons (pv 1) pa_nil)))) (pa_cons (pe_ix ix_list (pe_d c_room_slacks hr (by exact (pa_cons (pe_fld (pv 0) rfl) pa_nil))) (pv 2) (fun _ _ => rfl)) pa_nil))))))))), ?_⟩
    obtain ⟨h, rd, cl, ms, L, x, X, rfl, Y, hx, hX, k⟩ := h
    obtain ⟨t, ht, evt⟩ := ev_takers (K := K) (te := tVar 1) (σ := [some (.ref h), some (.ref x.1), some (nV X), none]) TC (ev_var rfl) (Y.ok.at_ x hx)
    refine q_asg (ev_setH TH Y (ev_var rfl) evt (sq_of ht) (Y.ok.tk x hx) (by have := Y.ok.tl x hx; omega)) fun H1 e1 => ?_
    have Y1 := Y.ext e1
    refine s_ret (ev_cal (as_v (ev_var rfl) (as_v (ev_var rfl) (as_L (el_cal (as_v (ev_var rfl) (as_v (ev_var rfl) (as_nil fun H2 e2 => sl_movedB (Y1.ext e2) hx)))) fun p H2 e2 h2 => as_v (v := .int ((roomSl ms).getD X 0)) ?_ (as_nil fun H3 e3 => sv_isProof (sq_of (e3 _ _ h2)) (others_few Y x.2)))))) fun H2 e2 => k H2 (e1.trans e2)
    exact ev_opL1 (el_roomsH TH (Y1.ext e2) (ev_var rfl)) (fun H3 e3 => ev_var rfl) fun q H3 hq e3 => rv_ixL (sq_of hq) (at_zs hX)
/-! ### least_of -/
def spLeast (K : PySem.W.Frag) : Sp := fun vs H Q _ => ∃ (a : Addr) (l : List Nat), vs = [.ref a] ∧ SqL K H a (nats l) ∧ 0 < l.length ∧ RetV (nV (leastOf l)) H Q
theorem sv_least {H : Hp} {a : Addr} {l : List Nat} (h : SqL K H a (nats l)) (h0 : 0 < l.length) : SpV (spLeast K) [.ref a] H (nV (leastOf l)) := fun _ e _ q _ => ⟨a, l, rfl, ex_l e h, h0, q⟩
theorem nats_at {ns : List Nat} {i : Nat} {x : V} (h : (nats ns)[i]? = some x) : ∃ z, ns[i]? = some z ∧ x = nV z ∧ z ∈ ns := by
  unfold nats at h
  rw [List.getElem?_map] at h
  cases q : ns[i]? with
  | none => rw [q] at h; cases h
  | some z =>
    rw [q] at h
    exact ⟨z, rfl, (Option.some.inj h).symm, List.mem_of_getElem? q⟩
abbrev s_least_of : Stmt := top 34
abbrev N_least_of : List Str := ["sets", "found", "chosen"]
abbrev P_least_of : List Str := ["sets"]
theorem sc_least_of : FnScope N_least_of P_least_of (defScope s_least_of) := ⟨rfl, rfl, rfl, by decide +kernel, rfl, by decide +kernel, by decide +kernel⟩

theorem ok_least_of (D : Dfn K mg "least_of" s_least_of P_least_of) : Cal P w K mg base 1 "least_of" (spLeast K) := by
  refine cal_of D sc_least_of (fun vs H Q E h => ?_) fun f cdv A outer s H vs Q E hr h => ?_
  · obtain ⟨a, b, rfl, _⟩ := h; rfl
  · refine ⟨_, (pss_cons (ps_set (i := 1) sc_least_of.nd rfl (Or.inl rfl) (pe_ix ix_list (pv 0) pe_int (fun _ _ => rfl)))
  (pss_cons (ps_for PassesOwn.never rfl (pi_list (pv 0)) (pg_name (i := 2) sc_least_of.nd rfl (Or.inl rfl))
  (pss_one (ps_set (i := 1) sc_least_of.nd rfl (Or.inl rfl) (pe_op op_and (pv 1) (pv 2)))))
  (pss_one (ps_ret (pv 1))))), ?_⟩
    obtain ⟨a, l, rfl, hs, h0, k⟩ := h
    refine q_asg (ev_atN (i := 0) hs h0 (ev_var rfl) ev_c) fun H1 e1 => ?_
    refine q_forLn (ev_var rfl) (ex_l e1 hs) (fun i σ' H' => ∃ v2, σ' = [some (.ref a), some (nV ((l.take i).foldl (fun a x => a &&& x) (l.getD 0 0))), v2] ∧ Ex H H') (fun H2 e2 => ⟨none, rfl, e1.trans e2⟩) (fun i σ' H' hi ⟨_, _, ex⟩ => ex_l ex hs) (fun i x σ' H' hx ⟨v1, es, ex⟩ => ?_) (fun σ' H' ⟨v1, es, ex⟩ => ?_)
    · subst es
      obtain ⟨z, hz, rfl, hm⟩ := nats_at hx
      refine s_asg (ev_op (ev_var rfl) (ev_var rfl) (rv_and _ _)) fun H2 e2 => ⟨some (nV z), ?_, ex.trans e2⟩
      obtain ⟨hi, rfl⟩ := List.getElem?_eq_some_iff.mp hz
      rw [List.take_succ_eq_append_getElem hi, List.foldl_append]; rfl
    · subst es
      rw [nats_len, List.take_length]
      exact s_ret (ev_var rfl) fun H2 e2 => k H2 (ex.trans e2)
/-! ### least_proof -/
def spLeastP (CH C : Addr) : Sp := fun vs H Q _ => ∃ (h rd cl : Addr) (ms : List Mem) (L : List AC) (x : AC), vs = [.ref h, .ref x.1] ∧ HsAt CH C H h rd cl ms L ∧ x ∈ L ∧ 0 < (proofsOf ms (setN (keysM ms) x.2.takers) (othersOf ms L x.2)).length ∧
  RetV (nV (leastOf (proofsOf ms (setN (keysM ms) x.2.takers) (othersOf ms L x.2)))) H Q
abbrev s_least_proof : Stmt := top 35
abbrev N_least_proof : List Str := ["house", "client", "own", "others", "rooms", "chosen"]
abbrev P_least_proof : List Str := ["house", "client"]
theorem sc_least_proof : FnScope N_least_proof P_least_proof (defScope s_least_proof) := ⟨rfl, rfl, rfl, by decide +kernel, rfl, by decide +kernel, by decide +kernel⟩

theorem ok_least_proof (TH : ClsH K CH) (TC : ClsC K C) (B : Blt mg) (D : Dfn K mg "least_proof" s_least_proof P_least_proof) (c_members_of : Cal P w K mg base 1 "members_of" spMembers) (c_set_of : Cal P w K mg base 2 "set_of" (spSetOf K))
    (c_moved_before : Cal P w K mg base 6 "moved_before" (spMovedB CH C)) (c_room_slacks : Cal P w K mg base 2 "room_slacks" spRooms) (c_is_proof : Cal P w K mg base 2 "is_proof" (spIsProof K)) (c_least_of : Cal P w K mg base 1 "least_of" (spLeast K)) :
    Cal P w K mg base 7 "least_proof" (spLeastP CH C) := by
  refine cal_of D sc_least_proof (fun vs H Q E h => ?_) fun f cdv A outer s H vs Q E hr h => ?_
  · obtain ⟨a, b, c, d, e, g, rfl, _⟩ := h; rfl
  · refine ⟨_, (pss_cons (ps_set (i := 2) sc_least_proof.nd rfl (Or.inr rfl) (pe_d c_set_of hr (by exact (pa_cons (pe_d c_members_of hr (by exact (pa_cons (pe_fld (pv 0) rfl) pa_nil))) (pa_cons (pe_fld (pv 1) rfl) pa_nil)))))
  (pss_cons (ps_set (i := 3) sc_least_proof.nd rfl (Or.inr rfl) (pe_d c_moved_before hr (by exact (pa_cons (pv 0) (pa_cons (pv 1) pa_nil)))))
  (pss_cons (ps_set (i := 4) sc_least_proof.nd rfl (Or.inr rfl) (pe_d c_room_slacks hr (by exact (pa_cons (pe_fld (pv 0) rfl) pa_nil))))
  (pss_one (ps_ret (pe_d c_least_of hr (by exact (pa_cons (pe_lc (own := [("chosen", 5)]) (g := gName 5) rfl sc_least_proof.nd (pi_range1 rfl B.range (by exact (pa_cons (pe_callB call_len_seq (by rfl) B.len (by decide +kernel) (by exact (pa_cons (pv 4) pa_nil))) pa_nil))) (blkOk_by (N := N_least_proof) (sc := defScope s_least_proof) (by decide +kernel)) (fun _ _ _ _ _ => by exact (pg_name (i := 5) sc_least_proof.nd rfl (Or.inl rfl))) (fun _ _ _ _ _ => by exact (pts_one (pt_val (pe_d c_is_proof hr (by exact (pa_cons (pv 5) (pa_cons (pv 2) (pa_cons (pv 3) (pa_cons (pe_ix (ix_listK (K := K) rfl) (pv 4) (pv 5) (fun _ _ => rfl)) pa_nil))))))))) (fun _ _ _ _ _ => by exact (pv 5))) pa_nil)))))))), ?_⟩
    obtain ⟨h, rd, cl, ms, L, x, rfl, Y, hx, h0, k⟩ := h
    obtain ⟨t, ht, evt⟩ := ev_takers (K := K) (te := tVar 1) (σ := [some (.ref h), some (.ref x.1), none, none, none, none]) TC (ev_var rfl) (Y.ok.at_ x hx)
    refine q_asg (ev_setH TH Y (ev_var rfl) evt (sq_of ht) (Y.ok.tk x hx) (by have := Y.ok.tl x hx; omega)) fun H1 e1 => ?_
    have Y1 := Y.ext e1
    refine q_asgL (el_cal (as_v (ev_var rfl) (as_v (ev_var rfl) (as_nil fun H2 e2 => sl_movedB (Y1.ext e2) hx)))) fun p H2 hp e2 h2 => ?_
    have Y2 := Y1.ext e2
    refine q_asgL (el_roomsH TH Y2 (ev_var rfl)) fun q H3 hq e3 h3 => ?_
    have hlen := room_few Y.rooms.few
    refine s_ret (ev_cal (as_L (el_lcR (fun X => isProof X (setN (keysM ms) x.2.takers) (othersOf ms L x.2) ((roomSl ms).getD X 0)) nV (ea_len (ev_var rfl) (sq_of h3) (zs_len _)) (by omega) (fun _ => rfl)
      (fun i H4 e4 hi => et_B (ev_cal (as_v (ev_var rfl) (as_v (ev_var rfl) (as_v (ev_var rfl) (as_v (ev_at (sq_of (e4 _ _ h3)) hi (ev_var rfl) (ev_var rfl)) (as_nil fun H5 e5 => sv_isProof (sq_of ((e3.trans (e4.trans e5)) _ _ h2)) (others_few Y x.2)))))))) fun i H4 e4 hi _ => ev_var rfl) fun r H4 e4 h4 => as_nil fun H5 e5 => sv_least (sq_of (e5 _ _ h4)) h0)) fun H4 e4 => k H4 (((e1.trans e2).trans e3).trans e4)
/-! ### bounds -/
def spBounds (CH C : Addr) : Sp := fun vs H Q _ => ∃ (h rd cl : Addr) (ms : List Mem) (L : List AC), vs = [.ref h] ∧ HsAt CH C H h rd cl ms L ∧ RetL (zs (boundsOf ms (ownsA (keysM ms) L))) H Q
theorem sl_bounds {H : Hp} {h rd cl : Addr} {ms : List Mem} {L : List AC} (X : HsAt CH C H h rd cl ms L) : SpL (spBounds CH C) [.ref h] H (zs (boundsOf ms (ownsA (keysM ms) L))) := fun _ e _ q _ => ⟨h, rd, cl, ms, L, rfl, X.ext e, q⟩
abbrev s_bounds : Stmt := top 36
abbrev N_bounds : List Str := ["house", "members", "own", "rooms", "found", "chosen", "client", "one"]
abbrev P_bounds : List Str := ["house"]
theorem sc_bounds : FnScope N_bounds P_bounds (defScope s_bounds) := ⟨rfl, rfl, rfl, by decide +kernel, rfl, by decide +kernel, by decide +kernel⟩

theorem ok_bounds (TH : ClsH K CH) (TC : ClsC K C) (B : Blt mg) (D : Dfn K mg "bounds" s_bounds P_bounds) (c_members_of : Cal P w K mg base 1 "members_of" spMembers) (c_set_of : Cal P w K mg base 2 "set_of" (spSetOf K))
    (c_room_slacks : Cal P w K mg base 2 "room_slacks" spRooms) (c_is_within : Cal P w K mg base 1 "is_within" spWithin) : Cal P w K mg base 3 "bounds" (spBounds CH C) := by
  refine cal_of D sc_bounds (fun vs H Q E h => ?_) fun f cdv A outer s H vs Q E hr h => ?_
  · obtain ⟨a, b, c, d, e, rfl, _⟩ := h; rfl
  · refine ⟨_, (pss_cons (ps_set (i := 1) sc_bounds.nd rfl (Or.inr rfl) (pe_d c_members_of hr (by exact (pa_cons (pe_fld (pv 0) rfl) pa_nil))))
  (pss_cons (ps_setLc (i := 2) (own := [("client", 6)]) (g := gName 6) rfl sc_bounds.nd rfl rfl (sw_true rfl rfl rfl (by decide +kernel)) (pi_list (pe_fld (pv 0) rfl)) (blkOk_by (N := N_bounds) (sc := defScope s_bounds) (by decide +kernel)) (fun _ _ _ _ _ => by exact (pg_name (i := 6) sc_bounds.nd rfl (Or.inl rfl))) (fun _ _ _ _ _ => by exact pts_nil) (fun _ _ _ _ _ => by exact (pe_d c_set_of hr (by exact (pa_cons (pv 1) (pa_cons (pe_fldK (K := K) rfl (pv 6) rfl) pa_nil))))))
  (pss_cons (ps_set (i := 3) sc_bounds.nd rfl (Or.inl rfl) (pe_d c_room_slacks hr (by exact (pa_cons (pe_fld (pv 0) rfl) pa_nil))))
  (pss_cons (ps_set (i := 4) sc_bounds.nd rfl (Or.inl rfl) (pe_lst (by exact pa_nil)))
  (pss_cons (ps_for PassesOwn.never rfl (pi_range1 rfl B.range (by exact (pa_cons (pe_callB call_len_seq (by rfl) B.len (by decide +kernel) (by exact (pa_cons (pv 3) pa_nil))) pa_nil))) (pg_name (i := 5) sc_bounds.nd rfl (Or.inr rfl))
  (pss_one (ps_expr (pe_bm PySem.F.plainAttrs_list PySem.F.slot_list_append PySem.F.type_list_append mt_append (pv 4) (by exact (pa_cons (pe_op op_add (pe_ix ix_list (pv 3) (pv 5) (fun _ _ => rfl)) (pe_callB call_len_seq (by rfl) B.len (by decide +kernel) (by exact (pa_cons (pe_lc (own := [("one", 7)]) (g := gName 7) rfl sc_bounds.nd (pi_list (pv 2)) (blkOk_by (N := N_bounds) (sc := defScope s_bounds) (by decide +kernel)) (fun _ _ _ _ _ => by exact (pg_name (i := 7) sc_bounds.nd rfl (Or.inl rfl))) (fun _ _ _ _ _ => by exact (pts_one (pt_not (pt_val (pe_d c_is_within hr (by exact (pa_cons (pv 7) (pa_cons (pv 5) pa_nil)))))))) (fun _ _ _ _ _ => by exact (pv 7))) pa_nil)))) pa_nil))))))
  (pss_one (ps_ret (pv 4)))))))), ?_⟩
    obtain ⟨h, rd, cl, ms, L, rfl, Y, k⟩ := h
    have h8 : (keysM ms).length ≤ 1000 := by rw [keys_len]; have := Y.rooms.few; omega
    have hlen := room_few Y.rooms.few
    have hfew := Y.ok.few
    refine q_asgL (el_cal (as_v (ev_rooms TH (ev_var rfl) Y) (as_nil fun H2 e => sl_members (Y.ext e).rooms))) fun p H1 hp e1 h1 => ?_
    have Y1 := Y.ext e1
    have hown : EvL (tLc (iList K (tFld K (tVar 0) "clients")) (gName 6) tYes (tCall (spSetOf K) [] E0 (tCons (tVar 1) (tCons (tFld K (tVar 6) "takers") tNil))) [6]) [some (.ref h), some (.ref p), none, none, none, none, none, none] H1 (nats (ownsA (keysM ms) L)) := by
      refine el_to (el_lcM L (fun y => V.ref y.1) (fun y => nV (setN (keysM ms) y.2.takers)) (fun _ => true) (ev_clients TH (ev_var rfl) Y1) (sq_of Y1.lst) (by omega) (fun _ => rfl) (fun _ _ _ _ => et_yes)
        fun y hy H2 e2 _ => ev_own TC (ev_var rfl) (sq_of (e2 _ _ h1)) h8 (ev_var rfl) ((Y1.ext e2).ok.at_ y hy) (Y.ok.tk y hy) (Y.ok.tl y hy)) ?_
      rw [filter_true]; unfold nats ownsA; rw [List.map_map]; rfl
    refine q_asgL hown fun o H2 ho e2 h2 => ?_
    have Y2 := Y1.ext e2
    refine q_asgL (el_roomsH TH Y2 (ev_var rfl)) fun q H3 hq e3 h3 => ?_
    refine q_asgL (el_lst ea_nil (by decide)) fun fl H4 hfl e4 h4 => ?_
    have eA := e1.trans (e2.trans e3)
    refine q_forR1 (ea_len (ev_var rfl) (sq_of (e4 _ _ h3)) (zs_len _)) ⟨by omega, by omega⟩ (fun i σ' H' => ∃ (v5 v6 v7 : Option V), σ' = [some (.ref h), some (.ref p), some (.ref o), some (.ref q), some (.ref fl), v5, v6, v7] ∧ Ex H3 H' ∧
        H' fl = some (.lst (zs ((List.range i).map fun X => (roomSl ms).getD X 0 + ((((ownsA (keysM ms) L).filter fun o => !isW o X).length : Nat) : Int)))))
      (fun H5 e5 => ⟨none, none, none, rfl, e4.trans e5, e5 _ _ h4⟩) (fun i σ' H' hi ⟨v5, v6, v7, es, ex, hf⟩ => ?_) (fun σ' H' ⟨v5, v6, v7, es, ex, hf⟩ => ?_)
    · subst es
      have hi' : i < (roomSl ms).length := by omega
      refine s_app (xs := zs ((List.range i).map fun X => (roomSl ms).getD X 0 + ((((ownsA (keysM ms) L).filter fun o => !isW o X).length : Nat) : Int))) (v := .int ((roomSl ms).getD i 0 + ((((ownsA (keysM ms) L).filter fun o => !isW o i).length : Nat) : Int))) hf (ev_var rfl) ?_ ?_ fun H5 e5 => ?_
      · refine ev_op (ev_at (sq_of (ex _ _ h3)) hi' (ev_var rfl) (ev_var rfl)) (y := .int ((((ownsA (keysM ms) L).filter fun o => !isW o i).length : Nat) : Int)) ?_ rv_I0
        refine ev_to (ev_lenN (el_lcM (ownsA (keysM ms) L) nV nV (fun o => !isW o i) (ev_var rfl) (sq_of ((e3.trans ex) _ _ h2)) (by unfold ownsA; rw [List.length_map]; omega) (fun _ => rfl)
          (fun y hy H6 e6 => et_not (et_B (ev_within (ev_var rfl) (ev_var rfl)))) fun y hy H6 e6 _ => ev_var rfl)) (by rw [List.length_map])
      · rw [zs_len, List.length_map, List.length_range]; omega
      · refine ⟨_, _, _, rfl, Ex.mut (ex.trans e5) hfl, ?_⟩
        rw [upd_same, List.range_succ, List.map_append]
        unfold zs; rw [List.map_append]; rfl
    · subst es
      rw [Int.toNat_natCast] at hf
      exact s_ret (ev_var rfl) fun H5 e5 => k fl H5 (fresh_back eA hfl) ((eA.trans ex).trans e5) (e5 _ _ hf)
/-! ### least_cover -/
def spCover (CH C : Addr) : Sp := fun vs H Q _ => ∃ (h rd cl : Addr) (ms : List Mem) (L : List AC), vs = [.ref h] ∧ HsAt CH C H h rd cl ms L ∧ 0 < (coversOf (boundsOf ms (ownsA (keysM ms) L)) ((movL ms (ordL L)).length : Int)).length ∧
  RetV (nV (leastOf (coversOf (boundsOf ms (ownsA (keysM ms) L)) ((movL ms (ordL L)).length : Int)))) H Q
theorem bounds_len (ms : List Mem) (os : List Nat) : (boundsOf ms os).length = (roomSl ms).length := by unfold boundsOf; simp
abbrev s_least_cover : Stmt := top 37
abbrev N_least_cover : List Str := ["house", "many", "every", "chosen"]
abbrev P_least_cover : List Str := ["house"]
theorem sc_least_cover : FnScope N_least_cover P_least_cover (defScope s_least_cover) := ⟨rfl, rfl, rfl, by decide +kernel, rfl, by decide +kernel, by decide +kernel⟩

theorem ok_least_cover (B : Blt mg) (D : Dfn K mg "least_cover" s_least_cover P_least_cover) (c_moved_clients : Cal P w K mg base 5 "moved_clients" (spMovedC CH C)) (c_bounds : Cal P w K mg base 3 "bounds" (spBounds CH C)) (c_least_of : Cal P w K mg base 1 "least_of" (spLeast K)) :
    Cal P w K mg base 6 "least_cover" (spCover CH C) := by
  refine cal_of D sc_least_cover (fun vs H Q E h => ?_) fun f cdv A outer s H vs Q E hr h => ?_
  · obtain ⟨a, b, c, d, e, rfl, _⟩ := h; rfl
  · refine ⟨_, (pss_cons (ps_set (i := 1) sc_least_cover.nd rfl (Or.inr rfl) (pe_callB call_len_seq (by rfl) B.len (by decide +kernel) (by exact (pa_cons (pe_d c_moved_clients hr (by exact (pa_cons (pv 0) pa_nil))) pa_nil))))
  (pss_cons (ps_set (i := 2) sc_least_cover.nd rfl (Or.inr rfl) (pe_d c_bounds hr (by exact (pa_cons (pv 0) pa_nil))))
  (pss_one (ps_ret (pe_d c_least_of hr (by exact (pa_cons (pe_lc (own := [("chosen", 3)]) (g := gName 3) rfl sc_least_cover.nd (pi_range1 rfl B.range (by exact (pa_cons (pe_callB call_len_seq (by rfl) B.len (by decide +kernel) (by exact (pa_cons (pv 2) pa_nil))) pa_nil))) (blkOk_by (N := N_least_cover) (sc := defScope s_least_cover) (by decide +kernel)) (fun _ _ _ _ _ => by exact (pg_name (i := 3) sc_least_cover.nd rfl (Or.inl rfl))) (fun _ _ _ _ _ => by exact (pts_one (pt_cmpR op_eq (pe_ix (ix_listK (K := K) rfl) (pv 2) (pv 3) (fun _ _ => rfl)) (pv 1) (nomark _)))) (fun _ _ _ _ _ => by exact (pv 3))) pa_nil))))))), ?_⟩
    obtain ⟨h, rd, cl, ms, L, rfl, Y, h0, k⟩ := h
    have hlen := room_few Y.rooms.few
    refine q_asg (ev_lenN (el_movedC (ev_var rfl) Y)) fun H1 e1 => ?_
    rw [refs_len]
    refine q_asgL (el_cal (as_v (ev_var rfl) (as_nil fun H2 e2 => sl_bounds ((Y.ext e1).ext e2)))) fun p H2 hp e2 h2 => ?_
    refine s_ret (ev_cal (as_L (el_lcR (fun X => decide ((boundsOf ms (ownsA (keysM ms) L)).getD X 0 = ((movL ms (ordL L)).length : Int))) nV (ea_len (ev_var rfl) (sq_of h2) (zs_len _)) (by rw [bounds_len]; omega) (fun _ => rfl)
      (fun i H4 e4 hi => et_test (ev_op (ev_at (sq_of (e4 _ _ h2)) hi (ev_var rfl) (ev_var rfl)) (ev_var rfl) (rv_eqI _ _))) fun i H4 e4 hi _ => ev_var rfl) fun r H4 e4 h4 => as_nil fun H5 e5 => sv_least (sq_of (e5 _ _ h4)) h0)) fun H4 e4 => k H4 ((e1.trans e2).trans e4)
end
end Cw
namespace Cw
open PySem PySem.Spec PyProof.Rows L2 Evl
open PySem.RefX (RefTxt)
open Cm (keysM setN isW hasB roomSl goesIn keptToo isFreeB withoutPlace movedBy allSl freeOf goalsOf GoalsOk keysOf leastOf isProof proofsOf boundsOf coversOf Inv Wn ckeys gl lessBy)
/-! ### more rules -/
section
variable {K : PySem.W.Frag} {σ : L2.St} {H H' : Hp} {ta te tb : TE} {v : V} {D : Ends} {tz : TS}
/-- found.extend(a list) -/
theorem s_ext {l : Addr} {xs ys : List V} (hl : H l = some (.lst xs)) (ha : Ev ta σ H (.ref l)) (h : EvL te σ H ys) (hz : xs.length + ys.length ≤ sizeLine) (k : ∀ H1, Ex H H1 → D.nx σ (upd H1 l (.lst (xs ++ ys)))) :
    tDrop (tBM K "list" rExtend ta (tCons te tNil)) D σ H :=
  ha H (Ex.refl H) _ fun H1 e1 => ⟨Or.inl ⟨rfl, xs, sq_of (e1 l _ hl)⟩, h H1 e1 _ fun p H2 hp e2 h2 => ⟨l, p, xs, ys, rfl, rfl, e2 _ _ (e1 _ _ hl), h2, hz, k H2 (e1.trans e2)⟩⟩
theorem q_ext {l : Addr} {xs ys : List V} (hl : H l = some (.lst xs)) (ha : Ev ta σ H (.ref l)) (h : EvL te σ H ys) (hz : xs.length + ys.length ≤ sizeLine) (k : ∀ H1, Ex H H1 → tz D σ (upd H1 l (.lst (xs ++ ys)))) :
    tSeq (tDrop (tBM K "list" rExtend ta (tCons te tNil))) tz D σ H := s_ext (D := { D with nx := tz D }) hl ha h hz k
/-- a ++ b, both new -/
theorem el_cat {xs ys : List V} (ha : EvL ta σ H xs) (hb : EvL tb σ H ys) (hz : xs.length + ys.length ≤ 100000) : EvL (tOp rCat ta tb) σ H (xs ++ ys) := fun H1 e Q q =>
  ha H1 e _ fun p H2 hp e2 h2 => hb H2 (e.trans e2) _ fun r H3 hr e3 h3 => ⟨p, r, xs, ys, rfl, rfl, e3 _ _ h2, h3, sz_of hz, fun x hx => q x _ (fresh_back (e2.trans e3) hx) ((e2.trans e3).trans (Ex.new hx)) upd_same⟩
theorem el_catV {xs ys : List V} {r : Addr} (ha : EvL ta σ H xs) (hb : Ev tb σ H (.ref r)) (hs : H r = some (.lst ys)) (hz : xs.length + ys.length ≤ 100000) : EvL (tOp rCat ta tb) σ H (xs ++ ys) := fun H1 e Q q =>
  ha H1 e _ fun p H2 hp e2 h2 => hb H2 (e.trans e2) _ fun H3 e3 => ⟨p, r, xs, ys, rfl, rfl, e3 _ _ h2, (e.trans (e2.trans e3)) _ _ hs, sz_of hz, fun x hx => q x _ (fresh_back (e2.trans e3) hx) ((e2.trans e3).trans (Ex.new hx)) upd_same⟩
/-- for i, j in zip(as, bs) -/
theorem s_forZ {ta : TA} {tb : TS} {a : Addr} {xs ys : List V} {i j : Nat} (Pv : Addr → Nat → L2.St → Hp → Prop) (hl : xs.length = ys.length) (h : EvAs ta σ H fun vs H1 => ∃ b, vs = [.ref a, .ref b] ∧ Pv b 0 σ H1)
    (hq : ∀ b i σ H, Pv b i σ H → SqL K H a xs ∧ SqL K H b ys)
    (hs : ∀ (b : Addr) (n : Nat) (x y : V) (T : Addr) (σ : L2.St) (H : Hp), xs[n]? = some x → ys[n]? = some y → Pv b n σ H → ∀ H2, Ex H H2 → tb { D with nx := Pv b (n + 1), ct := Pv b (n + 1), bk := D.nx } ((σ.set i (some x)).set j (some y)) H2) (hd : ∀ b σ H, Pv b xs.length σ H → D.nx σ H) :
    tFor (iZip K ta) (gTup K 2 (gCons (gName i) (gCons (gName j) gNil))) tb D σ H :=
  h H (Ex.refl H) _ fun vs H1 e1 ⟨b, hv, p0⟩ => ⟨a, b, xs, ys, hv, (hq b 0 _ _ p0).1, (hq b 0 _ _ p0).2,
    RZ.for_zipL hl (Pv b) p0 (hq b) (fun n x y T σ H hx hy p hT => ⟨T, [x, y], rfl, st_of upd_same, rfl, ⟨x, [y], rfl, y, [], rfl, rfl, hs b n x y T σ H hx hy p _ (Ex.new hT)⟩⟩) (hd b)⟩
end
/-! ### asking -/
def Neg (ns : List Int) : Prop := ∃ c, ns = [c] ∧ c < 0
theorem not_neg {ns : List Int} (h : ∀ z ∈ ns, 0 ≤ z) : ¬ Neg ns := by
  rintro ⟨c, rfl, hc⟩
  have := h c List.mem_cons_self
  omega
theorem ints_pos (l : List Nat) : ∀ z ∈ Vbchaj.ints l, 0 ≤ z := fun z h => by
  obtain ⟨n, _, rfl⟩ := List.mem_map.mp h
  exact Int.natCast_nonneg n
theorem not_neg_ints (l : List Nat) : ¬ Neg (Vbchaj.ints l) := not_neg (ints_pos l)
theorem zs_ints (l : List Nat) : zs (Vbchaj.ints l) = nats l := by unfold zs Vbchaj.ints nats; rw [List.map_map]; rfl
structure Told (R : Addr) (H : Hp) (ns : List Int) (Q : VK) (E : XK) : Prop where
  no : ∀ c, ns = [c] → c < 0 → Rs R E H c
  yes : ¬ Neg ns → RetL (zs ns) H Q
section
variable {R : Addr} {H H' : Hp} {ns : List Int} {Q : VK} {E : XK}
theorem retL_mono {xs : List V} (k : RetL xs H Q) (e : Ex H H') : RetL xs H' Q := fun p H2 hp e2 h => k p H2 (fresh_back e hp) (e.trans e2) h
theorem retV_mono {v : V} (k : RetV v H Q) (e : Ex H H') : RetV v H' Q := fun H2 e2 => k H2 (e.trans e2)
theorem Told.go (k : Told R H ns Q E) (e : Ex H H') : Told R H' ns Q E := ⟨fun c h hc => (k.no c h hc).go e, fun h => retL_mono (k.yes h) e⟩
theorem Told.nats (k : Told R H ns Q E) {l : List Nat} (h : ns = Vbchaj.ints l) : RetL (nats l) H Q := by
  subst h
  have := k.yes (not_neg_ints l)
  rwa [zs_ints] at this
end
/-! ### the house of a state -/
structure HouseAt (CH C : Addr) (H : Hp) (h rd cl : Addr) (s : Vbchaj.State) (L : List AC) : Prop where
  hs : HsAt CH C H h rd cl s.members L
  perm : (L.map Prod.snd).Perm s.clients
  inv : Inv s
theorem HouseAt.ext {CH C : Addr} {H H' : Hp} {h rd cl : Addr} {s : Vbchaj.State} {L : List AC} (x : HouseAt CH C H h rd cl s L) (e : Ex H H') : HouseAt CH C H' h rd cl s L := ⟨x.hs.ext e, x.perm, x.inv⟩
section
variable {CH C R : Addr} {H : Hp} {h rd cl : Addr} {s : Vbchaj.State} {L : List AC}
theorem cLe_iff (p q : AC) : cLe p q = true ↔ p.2.order < q.2.order ∨ (p.2.order = q.2.order ∧ p.2.key ≤ q.2.key) := by
  unfold cLe
  rw [decide_eq_true_iff]
  omega
theorem ordL_sorted (L : List AC) : (ordL L).Pairwise fun a b => cLe a b = true :=
  List.pairwise_mergeSort (fun a b c h1 h2 => by rw [cLe_iff] at *; omega) (fun a b => by rw [Bool.or_eq_true, cLe_iff, cLe_iff]; omega) L
theorem snd_perm (L : List AC) : ((ordL L).map Prod.snd).Perm (L.map Prod.snd) := (ordL_perm L).map _
theorem HouseAt.ord (x : HouseAt CH C H h rd cl s L) : (ordL L).map Prod.snd = s.clients := by
  have p := (snd_perm L).trans x.perm
  refine List.Perm.eq_of_pairwise (le := fun a b : Cli => a.order < b.order ∨ (a.order = b.order ∧ a.key ≤ b.key)) (fun a b ha hb h1 h2 => ?_) ?_ ?_ p
  · exact Cm.key_injF (fun c : Cli => c.key) x.inv.ck (p.mem_iff.mp ha) hb (by omega)
  · rw [List.pairwise_map]
    exact (ordL_sorted L).imp fun h => (cLe_iff _ _).mp h
  · exact x.inv.so.imp fun h => by rw [Cm.sooner_iff] at h; omega
theorem movL_map {ms : List Mem} {M : List AC} {cs : List Cli} (w : Wn ms cs) (e : M.map Prod.snd = cs) : (movL ms M).map Prod.snd = Vbchaj.movedOf ms cs := by
  rw [← Cm.moved_is w, ← e]
  exact Cm.movedBy_map (keysM ms) Prod.snd id (roomSl ms) [] M
theorem HouseAt.mov (x : HouseAt CH C H h rd cl s L) : (movL s.members (ordL L)).map Prod.snd = Vbchaj.movedOf s.members s.clients := movL_map x.inv.wn x.ord
theorem keysA_map (M : List AC) : keysA M = ckeys (M.map Prod.snd) := by unfold keysA ckeys; rw [List.map_map]; rfl
theorem HouseAt.movk (x : HouseAt CH C H h rd cl s L) : keysA (movL s.members (ordL L)) = ckeys (Vbchaj.movedOf s.members s.clients) := by rw [keysA_map, x.mov]
theorem filt_map (M : List AC) (q : Cli → Bool) : (M.filter fun x => q x.2).map Prod.snd = (M.map Prod.snd).filter q := by rw [List.filter_map]; rfl
theorem keysA_filt (M : List AC) (q : Cli → Bool) : keysA (M.filter fun x => q x.2) = ckeys ((M.map Prod.snd).filter q) := by rw [keysA_map, filt_map]
theorem HouseAt.ckL (x : HouseAt CH C H h rd cl s L) : (L.map fun y => y.2.key).Nodup := by
  have : (ckeys (L.map Prod.snd)).Nodup := (x.perm.map _).nodup_iff.mpr x.inv.ck
  unfold ckeys at this
  rwa [List.map_map] at this
theorem HouseAt.memc (x : HouseAt CH C H h rd cl s L) {y : AC} (hy : y ∈ L) : y.2 ∈ s.clients := x.perm.mem_iff.mp (List.mem_map.mpr ⟨y, hy, rfl⟩)
theorem HouseAt.lenL (x : HouseAt CH C H h rd cl s L) : L.length = s.clients.length := by rw [← x.perm.length_eq, List.length_map]
theorem HouseAt.find (x : HouseAt CH C H h rd cl s L) {z : Int} (hz : Vbchaj.keyed z = true) :
    (findL L z = none → Vbchaj.clientAt s z.toNat = none) ∧ ∀ y, findL L z = some y → y ∈ L ∧ (y.2.key : Int) = z ∧ y.2.key = z.toNat ∧ Vbchaj.clientAt s z.toNat = some y.2 := by
  have hz := (keyed_iff z).mp hz
  constructor
  · intro hn
    refine Cm.find_none (fun c : Cli => c.key) fun hk => ?_
    obtain ⟨c, hc, e⟩ := List.mem_map.mp hk
    obtain ⟨y, hy, rfl⟩ := List.mem_map.mp (x.perm.mem_iff.mpr hc)
    refine List.find?_eq_none.mp hn y hy (decide_eq_true ?_)
    omega
  · intro y hy
    have h1 := List.mem_of_find?_eq_some hy
    have h2 := of_decide_eq_true (List.find?_some (p := fun x : AC => decide ((x.2.key : Int) = z)) hy)
    have h3 : y.2.key = z.toNat := by omega
    refine ⟨h1, h2, h3, ?_⟩
    rw [← h3]
    exact Cm.find_key (fun c : Cli => c.key) x.inv.ck (x.memc h1)
theorem known_kn (s : Vbchaj.State) (ns : List Int) : Vbchaj.known s ns = kn s.members ns := by
  unfold Vbchaj.known kn
  congr 1
  funext z
  exact Cm.memberAt_iff s z.toNat
end
/-! ### promises of asking -/
def spA0 (CH C : Addr) (f : Vbchaj.State → List Int) : Sp := fun vs H Q _ => ∃ (h rd cl : Addr) (s : Vbchaj.State) (L : List AC), vs = [.ref h] ∧ HouseAt CH C H h rd cl s L ∧ RetL (zs (f s)) H Q
def spA1 (CH C R : Addr) (f : Vbchaj.State → Int → List Int) : Sp := fun vs H Q E => ∃ (h rd cl : Addr) (s : Vbchaj.State) (L : List AC) (z : Int), vs = [.ref h, .int z] ∧ HouseAt CH C H h rd cl s L ∧ Told R H (f s z) Q E
def spA2 (CH C R : Addr) (f : Vbchaj.State → Int → Int → List Int) : Sp := fun vs H Q E => ∃ (h rd cl : Addr) (s : Vbchaj.State) (L : List AC) (z y : Int), vs = [.ref h, .int z, .int y] ∧ HouseAt CH C H h rd cl s L ∧ Told R H (f s z y) Q E
def spAL (K : PySem.W.Frag) (CH C R : Addr) (f : Vbchaj.State → List Int → List Int) : Sp := fun vs H Q E => ∃ (h rd cl a : Addr) (s : Vbchaj.State) (L : List AC) (ns : List Int), vs = [.ref h, .ref a] ∧ HouseAt CH C H h rd cl s L ∧ SqL K H a (zs ns) ∧ ns.length ≤ 100 ∧ Told R H (f s ns) Q E
def spA1L (K : PySem.W.Frag) (CH C R : Addr) (f : Vbchaj.State → Int → List Int → List Int) : Sp := fun vs H Q E => ∃ (h rd cl a : Addr) (s : Vbchaj.State) (L : List AC) (z : Int) (ns : List Int), vs = [.ref h, .int z, .ref a] ∧ HouseAt CH C H h rd cl s L ∧ SqL K H a (zs ns) ∧ ns.length ≤ 100 ∧ Told R H (f s z ns) Q E
/-! ### looks, for a state -/
section
variable {K : PySem.W.Frag} {σ : L2.St} {H : Hp} {ta te tb : TE} {D : Ends} {tz : TS} {CH C R : Addr} {h rd cl : Addr} {s : Vbchaj.State} {L : List AC} {E : L2.St → XK}
/-- look_key(z) -/
theorem q_key {z : Int} (hz : Ev te σ H (.int z)) (no : Vbchaj.keyed z = false → Rs R (E σ) H (-1)) (k : Vbchaj.keyed z = true → ∀ H1, Ex H H1 → tz D σ H1) : tSeq (tDrop (tCallS (spKey R) E (tCons te tNil))) tz D σ H :=
  q_dropX (as_v hz (as_nil fun H1 e => ⟨z, rfl, fun q => (no q).go e, fun q H2 e2 => k q H2 (e.trans e2)⟩))
theorem q_range {z lo hi : Int} (hz : Ev te σ H (.int z)) {tl th : TE} (h1 : Ev tl σ H (.int lo)) (h2 : Ev th σ H (.int hi)) (no : ¬ (lo ≤ z ∧ z ≤ hi) → Rs R (E σ) H (-1)) (k : lo ≤ z ∧ z ≤ hi → ∀ H1, Ex H H1 → tz D σ H1) :
    tSeq (tDrop (tCallS (spRange R) E (tCons te (tCons tl (tCons th tNil))))) tz D σ H :=
  q_dropX (as_v hz (as_v h1 (as_v h2 (as_nil fun H1 e => ⟨z, lo, hi, rfl, fun q => (no q).go e, fun q H2 e2 => k q H2 (e.trans e2)⟩))))
theorem q_list {a : Addr} {ns : List Int} (ha : Ev te σ H (.ref a)) (hs : SqL K H a (zs ns)) (hn : ns.length ≤ 100) (no1 : Vbchaj.listed ns = false → Rs R (E σ) H (-1)) (no3 : Vbchaj.listed ns = true → Vbchaj.distinct (Vbchaj.nats ns) = false → Rs R (E σ) H (-3))
    (k : Vbchaj.listed ns = true → Vbchaj.distinct (Vbchaj.nats ns) = true → ∀ H1, Ex H H1 → tz D σ H1) : tSeq (tDrop (tCallS (spList K R) E (tCons te tNil))) tz D σ H :=
  q_dropX (as_v ha (as_nil fun H1 e => ⟨a, ns, rfl, ex_l e hs, hn, fun q => (no1 q).go e, fun q q' => (no3 q q').go e, fun q q' H2 e2 => k q q' H2 (e.trans e2)⟩))
/-- look_members(house, row) -/
theorem q_members {a : Addr} {ns : List Int} (X : HouseAt CH C H h rd cl s L) (hh : Ev ta σ H (.ref h)) (ha : Ev te σ H (.ref a)) (hs : SqL K H a (zs ns)) (hn : ns.length ≤ 100) (h0 : ∀ z ∈ ns, 0 ≤ z) (no : Vbchaj.known s ns = false → Rs R (E σ) H (-4))
    (k : Vbchaj.known s ns = true → ∀ H1, Ex H H1 → tz D σ H1) : tSeq (tDrop (tCallS (spLookM K CH C R) E (tCons ta (tCons te tNil)))) tz D σ H :=
  q_dropX (as_v hh (as_v ha (as_nil fun H1 e => ⟨h, rd, cl, a, s.members, L, ns, rfl, X.hs.ext e, ex_l e hs, hn, h0, fun q => (no (by rw [known_kn]; exact q)).go e, fun q H2 e2 => k (by rw [known_kn]; exact q) H2 (e.trans e2)⟩)))
/-- look_members(house, [key]) -/
theorem q_member {z : Int} (X : HouseAt CH C H h rd cl s L) (hh : Ev ta σ H (.ref h)) (hz : Ev te σ H (.int z)) (h0 : Vbchaj.keyed z = true) (no : Vbchaj.memberAt s z.toNat = none → Rs R (E σ) H (-4))
    (k : ∀ m, Vbchaj.memberAt s z.toNat = some m → ∀ H1, Ex H H1 → tz D σ H1) : tSeq (tDrop (tCallS (spLookM K CH C R) E (tCons ta (tCons (tLst (tCons te tNil)) tNil)))) tz D σ H := by
  refine q_dropX (as_v hh (as_L (el_lst (ea_cons hz ea_nil) (by show 1 ≤ 100000; decide)) fun p H1 e1 h1 => as_nil fun H2 e => ⟨h, rd, cl, p, s.members, L, [z], rfl, X.hs.ext (e1.trans e), sq_of (e _ _ h1), by show 1 ≤ 100; decide, fun y hy => ?_, fun q => (no ?_).go (e1.trans e), fun q H3 e2 => ?_⟩))
  · obtain rfl := List.mem_singleton.mp hy
    have := (keyed_iff y).mp h0
    omega
  · rw [← known_kn] at q
    unfold Vbchaj.known at q
    rw [List.all_cons, List.all_nil, Bool.and_true] at q
    exact Option.not_isSome_iff_eq_none.mp (by rw [q]; decide)
  · rw [← known_kn] at q
    unfold Vbchaj.known at q
    rw [List.all_cons, List.all_nil, Bool.and_true] at q
    obtain ⟨m, hm⟩ := Option.isSome_iff_exists.mp q
    exact k m hm H3 ((e1.trans e).trans e2)
/-- client = known_client(house, key) -/
theorem q_known {z : Int} {i : Nat} (X : HouseAt CH C H h rd cl s L) (hh : Ev ta σ H (.ref h)) (hz : Ev te σ H (.int z)) (h0 : Vbchaj.keyed z = true) (no : Vbchaj.clientAt s z.toNat = none → Rs R (E σ) H (-4))
    (k : ∀ y, y ∈ L → (y.2.key : Int) = z → y.2.key = z.toNat → Vbchaj.clientAt s z.toNat = some y.2 → ∀ H1, Ex H H1 → tz D (σ.set i (some (.ref y.1))) H1) :
    tSeq (tAsg (tCallS (spKnown CH C R) E (tCons ta (tCons te tNil))) (gName i)) tz D σ H :=
  q_asgX (as_v hh (as_v hz (as_nil fun H1 e => ⟨h, rd, cl, s.members, L, z, rfl, X.hs.ext e, fun q => (no ((X.find h0).1 q)).go e, fun y hy H2 e2 => by
    obtain ⟨a, b, c, d⟩ := (X.find h0).2 y hy
    exact k y a b c d H2 (e.trans e2)⟩)))
/-- known_client(house, key) -/
theorem q_knownD {z : Int} (X : HouseAt CH C H h rd cl s L) (hh : Ev ta σ H (.ref h)) (hz : Ev te σ H (.int z)) (h0 : Vbchaj.keyed z = true) (no : Vbchaj.clientAt s z.toNat = none → Rs R (E σ) H (-4))
    (k : ∀ y, y ∈ L → (y.2.key : Int) = z → y.2.key = z.toNat → Vbchaj.clientAt s z.toNat = some y.2 → ∀ H1, Ex H H1 → tz D σ H1) :
    tSeq (tDrop (tCallS (spKnown CH C R) E (tCons ta (tCons te tNil)))) tz D σ H :=
  q_dropX (as_v hh (as_v hz (as_nil fun H1 e => ⟨h, rd, cl, s.members, L, z, rfl, X.hs.ext e, fun q => (no ((X.find h0).1 q)).go e, fun y hy H2 e2 => by
    obtain ⟨a, b, c, d⟩ := (X.find h0).2 y hy
    exact k y a b c d H2 (e.trans e2)⟩)))
end
end Cw
namespace Cw
open PySem PySem.Spec PyProof.Rows L2 Evl
open PySem.RefX (RefTxt)
open Cm (keysM setN isW hasB roomSl goesIn keptToo isFreeB withoutPlace movedBy allSl freeOf goalsOf GoalsOk keysOf leastOf isProof proofsOf boundsOf coversOf Inv Wn ckeys gl lessBy)
/-! ### words -/
section
variable {K : PySem.W.Frag} {σ : L2.St} {H H' : Hp} {ta te tb : TE} {v : V} {D : Ends} {tz : TS}
theorem as_LF {tr : TA} {xs : List V} {P : List V → Hp → Prop} (h : EvL te σ H xs) (hr : ∀ p H1, H p = none → Ex H H1 → H1 p = some (.lst xs) → EvAs tr σ H1 fun vs H2 => P (.ref p :: vs) H2) : EvAs (tCons te tr) σ H P := fun H1 e _ q =>
  h H1 e _ fun p H2 hp e2 h2 => hr p H2 (fresh_back e hp) (e.trans e2) h2 H2 (Ex.refl H2) _ fun vs H3 e3 p => q _ H3 (e2.trans e3) p
theorem q_forZ {ta : TA} {tb : TS} {a : Addr} {xs ys : List V} {i j : Nat} (Pv : Addr → Nat → L2.St → Hp → Prop) (hl : xs.length = ys.length) (h : EvAs ta σ H fun vs H1 => ∃ b, vs = [.ref a, .ref b] ∧ Pv b 0 σ H1)
    (hq : ∀ b i σ H, Pv b i σ H → SqL K H a xs ∧ SqL K H b ys)
    (hs : ∀ (b : Addr) (n : Nat) (x y : V) (T : Addr) (σ : L2.St) (H : Hp), xs[n]? = some x → ys[n]? = some y → Pv b n σ H → ∀ H2, Ex H H2 → tb { D with nx := Pv b (n + 1), ct := Pv b (n + 1), bk := tz D } ((σ.set i (some x)).set j (some y)) H2) (hd : ∀ b σ H, Pv b xs.length σ H → tz D σ H) :
    tSeq (tFor (iZip K ta) (gTup K 2 (gCons (gName i) (gCons (gName j) gNil))) tb) tz D σ H := s_forZ (D := { D with nx := tz D }) Pv hl h hq hs hd
theorem find_takeG {α : Type} {l : List α} {q : α → Bool} {i : Nat} {x : α} (hx : l[i]? = some x) (hn : (l.take i).find? q = none) : (l.take (i + 1)).find? q = if q x = true then some x else none := by
  obtain ⟨hi, rfl⟩ := List.getElem?_eq_some_iff.mp hx
  rw [List.take_succ_eq_append_getElem hi, List.find?_append, hn, Option.none_or, List.find?_cons]
  by_cases e : q l[i] = true
  · rw [e, if_pos rfl]
  · rw [if_neg e, Bool.eq_false_iff.mpr e]; rfl
theorem find_moreG {α : Type} {l : List α} {q : α → Bool} {i : Nat} {x : α} (h : (l.take i).find? q = some x) : l.find? q = some x := by
  rw [← List.take_append_drop i l, List.find?_append, h]; rfl
theorem ret_nats {R : Addr} {ns : List Int} {Q : VK} {E : XK} {l : List Nat} (k : Told R H ns Q E) (h : ns = Vbchaj.ints l) (e : Ex H H') : RetL (nats l) H' Q := retL_mono (k.nats h) e
theorem nats_app (a b : List Nat) : nats (a ++ b) = nats a ++ nats b := List.map_append
end
theorem onC1 {s : Vbchaj.State} {z : Int} {f : Cli → Vbchaj.State × List Int} (h : Vbchaj.keyed z = false) : Vbchaj.onClient s z f = (s, [-1]) := by unfold Vbchaj.onClient; rw [if_pos h]
theorem onC4 {s : Vbchaj.State} {z : Int} {f : Cli → Vbchaj.State × List Int} (h : Vbchaj.keyed z = true) (h2 : Vbchaj.clientAt s z.toNat = none) : Vbchaj.onClient s z f = (s, [-4]) := by
  unfold Vbchaj.onClient; rw [if_neg (by rw [h]; decide), h2]
theorem onC0 {s : Vbchaj.State} {z : Int} {f : Cli → Vbchaj.State × List Int} {c : Cli} (h : Vbchaj.keyed z = true) (h2 : Vbchaj.clientAt s z.toNat = some c) : Vbchaj.onClient s z f = f c := by
  unfold Vbchaj.onClient; rw [if_neg (by rw [h]; decide), h2]
theorem onM1 {s : Vbchaj.State} {z : Int} {f : Mem → Vbchaj.State × List Int} (h : Vbchaj.keyed z = false) : Vbchaj.onMember s z f = (s, [-1]) := by unfold Vbchaj.onMember; rw [if_pos h]
theorem onM4 {s : Vbchaj.State} {z : Int} {f : Mem → Vbchaj.State × List Int} (h : Vbchaj.keyed z = true) (h2 : Vbchaj.memberAt s z.toNat = none) : Vbchaj.onMember s z f = (s, [-4]) := by
  unfold Vbchaj.onMember; rw [if_neg (by rw [h]; decide), h2]
theorem onM0 {s : Vbchaj.State} {z : Int} {f : Mem → Vbchaj.State × List Int} {c : Mem} (h : Vbchaj.keyed z = true) (h2 : Vbchaj.memberAt s z.toNat = some c) : Vbchaj.onMember s z f = f c := by
  unfold Vbchaj.onMember; rw [if_neg (by rw [h]; decide), h2]
theorem onL1 {s : Vbchaj.State} {l : List Int} {f : List Nat → Vbchaj.State × List Int} (h : Vbchaj.listed l = false) : Vbchaj.onList s l f = (s, [-1]) := by unfold Vbchaj.onList; rw [if_pos h]
theorem onL3 {s : Vbchaj.State} {l : List Int} {f : List Nat → Vbchaj.State × List Int} (h : Vbchaj.listed l = true) (h2 : Vbchaj.distinct (Vbchaj.nats l) = false) : Vbchaj.onList s l f = (s, [-3]) := by
  unfold Vbchaj.onList; rw [if_neg (by rw [h]; decide), if_pos h2]
theorem onL4 {s : Vbchaj.State} {l : List Int} {f : List Nat → Vbchaj.State × List Int} (h : Vbchaj.listed l = true) (h2 : Vbchaj.distinct (Vbchaj.nats l) = true) (h3 : Vbchaj.known s l = false) : Vbchaj.onList s l f = (s, [-4]) := by
  unfold Vbchaj.onList; rw [if_neg (by rw [h]; decide), if_neg (by rw [h2]; decide), if_pos h3]
theorem onL0 {s : Vbchaj.State} {l : List Int} {f : List Nat → Vbchaj.State × List Int} (h : Vbchaj.listed l = true) (h2 : Vbchaj.distinct (Vbchaj.nats l) = true) (h3 : Vbchaj.known s l = true) : Vbchaj.onList s l f = f (Vbchaj.nats l) := by
  unfold Vbchaj.onList; rw [if_neg (by rw [h]; decide), if_neg (by rw [h2]; decide), if_neg (by rw [h3]; decide)]
/-- clients and where they go -/
def zipG (ms : List Mem) (L : List AC) (cs : List Cli) : List (AC × Nat) := (movL ms (ordL L)).zip (gl ms cs)
section
variable {CH C R : Addr} {H : Hp} {h rd cl : Addr} {s : Vbchaj.State} {L : List AC}
theorem HouseAt.gl_len (x : HouseAt CH C H h rd cl s L) : (gl s.members s.clients).length = (movL s.members (ordL L)).length := by rw [Cm.gl_len, ← x.mov, List.length_map]
theorem HouseAt.told (x : HouseAt CH C H h rd cl s L) : Vbchaj.told s.members s.clients = (zipG s.members L s.clients).map fun z => (z.1.2.key, z.2) := by
  rw [Cm.told_eq x.inv.wn, ← x.mov]
  unfold zipG
  rw [List.zip_map_left, List.map_map]; rfl
theorem HouseAt.zip_len (x : HouseAt CH C H h rd cl s L) : (zipG s.members L s.clients).length = (movL s.members (ordL L)).length := by
  unfold zipG
  rw [List.length_zip, x.gl_len]; omega
theorem zipG_at {ms : List Mem} {L : List AC} {cs : List Cli} {n : Nat} {x y : V} (hx : (refs (movL ms (ordL L)))[n]? = some x) (hy : (nats (gl ms cs))[n]? = some y) :
    ∃ a g, x = .ref a.1 ∧ y = nV g ∧ (zipG ms L cs)[n]? = some (a, g) ∧ a ∈ movL ms (ordL L) ∧ g ∈ gl ms cs := by
  obtain ⟨a, ha, rfl, hm⟩ := refs_at hx
  obtain ⟨g, hg, rfl, hm'⟩ := nats_at hy
  refine ⟨a, g, rfl, rfl, ?_, hm, hm'⟩
  unfold zipG
  rw [List.getElem?_zip_eq_some]
  exact ⟨ha, hg⟩
/-- clients, placing(house.rooms, clients) -/
theorem HouseAt.goals {K : PySem.W.Frag} {σ : L2.St} {te tc : TE} {p : Addr} {E : XK} (TH : ClsH K CH) (x : HouseAt CH C H h rd cl s L) (he : Ev te σ H (.ref h)) (hc : Ev tc σ H (.ref p)) (hp : H p = some (.lst (refs (movL s.members (ordL L))))) :
    EvL (tCall (spPlacing K C) [] E (tCons (tFld K te "rooms") (tCons tc tNil))) σ H (nats (gl s.members s.clients)) := by
  refine el_cal (as_v (ev_rooms TH he x.hs) (as_v hc (as_nil fun H1 e => ?_)))
  have g := Cm.gl_ok x.inv.wn
  have := sl_placing (K := K) (x.hs.ext e).rooms (sq_of (e _ _ hp)) ((x.hs.ok.ext e).ord.mov s.members) (by rw [x.mov]; exact g)
  rw [x.mov] at this
  exact this
theorem HouseAt.room (x : HouseAt CH C H h rd cl s L) : (movL s.members (ordL L)).length ≤ 16 := by
  have := (movL_sub s.members (ordL L)).length_le
  rw [ordL_len, x.lenL] at this
  exact Nat.le_trans this x.inv.cf
end
section
variable {P : Program} {w : World} {K : PySem.W.Frag} {mg : Str → Option Value} {base : Heap} {C CH R fI : Addr}
/-! ### tell_moved -/
def flatZ (l : List (AC × Nat)) : List Nat := l.flatMap fun z => [z.1.2.key, z.2]
theorem flatZ_succ {l : List (AC × Nat)} {i : Nat} {z : AC × Nat} (h : l[i]? = some z) : flatZ (l.take (i + 1)) = flatZ (l.take i) ++ [z.1.2.key, z.2] := by
  obtain ⟨hi, rfl⟩ := List.getElem?_eq_some_iff.mp h
  unfold flatZ
  rw [List.take_succ_eq_append_getElem hi, List.flatMap_append]
  simp
theorem flatZ_len (l : List (AC × Nat)) : (flatZ l).length = 2 * l.length := by
  unfold flatZ
  induction l with
  | nil => rfl
  | cons a l ih => rw [List.flatMap_cons, List.length_append, ih]; simp; omega
def fMoved (s : Vbchaj.State) : List Int := (Vbchaj.step s .moved).2
abbrev s_tell_moved : Stmt := top 40
abbrev N_tell_moved : List Str := ["house", "clients", "found", "client", "goal"]
abbrev P_tell_moved : List Str := ["house"]
theorem sc_tell_moved : FnScope N_tell_moved P_tell_moved (defScope s_tell_moved) := ⟨rfl, rfl, rfl, by decide +kernel, rfl, by decide +kernel, by decide +kernel⟩

theorem ok_tell_moved (TH : ClsH K CH) (TC : ClsC K C) (B : Blt mg) (D : Dfn K mg "tell_moved" s_tell_moved P_tell_moved) (c_moved_clients : Cal P w K mg base 5 "moved_clients" (spMovedC CH C)) (c_placing : Cal P w K mg base 4 "placing" (spPlacing K C)) :
    Cal P w K mg base 6 "tell_moved" (spA0 CH C fMoved) := by
  refine cal_of D sc_tell_moved (fun vs H Q E h => ?_) fun f cdv A outer s H vs Q E hr h => ?_
  · obtain ⟨a, b, c, d, e, rfl, _⟩ := h; rfl
  · refine ⟨_, (pss_cons (ps_set (i := 1) sc_tell_moved.nd rfl (Or.inl rfl) (pe_d c_moved_clients hr (by exact (pa_cons (pv 0) pa_nil))))
  (pss_cons (ps_set (i := 2) sc_tell_moved.nd rfl (Or.inl rfl) (pe_lst (by exact (pa_cons (pe_callB call_len_seq (by rfl) B.len (by decide +kernel) (by exact (pa_cons (pv 1) pa_nil))) pa_nil))))
  (pss_cons (ps_for PassesOwn.never rfl (pi_zip (by rfl) B.zip (by exact (pa_cons (pv 1) (pa_cons (pe_d c_placing hr (by exact (pa_cons (pe_fld (pv 0) rfl) (pa_cons (pv 1) pa_nil)))) pa_nil)))) (pg_tup rfl (pgs_cons (pg_name (i := 3) sc_tell_moved.nd rfl (Or.inl rfl)) (pgs_cons (pg_name (i := 4) sc_tell_moved.nd rfl (Or.inl rfl)) pgs_nil)))
  (pss_one (ps_expr (pe_bm PySem.F.plainAttrs_list PySem.F.slot_list_extend PySem.F.type_list_extend mt_extend (pv 2) (by exact (pa_cons (pe_lst (by exact (pa_cons (pe_fld (pv 3) rfl) (pa_cons (pv 4) pa_nil)))) pa_nil))))))
  (pss_one (ps_ret (pv 2)))))), ?_⟩
    obtain ⟨h, rd, cl, s, L, rfl, X, k⟩ := h
    refine q_asgL (el_movedC (ev_var rfl) X.hs) fun p H1 hp e1 h1 => ?_
    refine q_asgL (el_lst (ea_cons (ev_len (ev_var rfl) (sq_of h1)) ea_nil) (by show 1 ≤ 100000; decide)) fun fl H2 hfl e2 h2 => ?_
    have X2 := X.ext (e1.trans e2)
    rw [refs_len] at h2
    have hM := X.room
    refine q_forZ (xs := refs (movL s.members (ordL L))) (ys := nats (gl s.members s.clients)) (a := p) (fun b i σ' H' => ∃ v3 v4, σ' = [some (.ref h), some (.ref p), some (.ref fl), v3, v4] ∧ Ex H1 H' ∧ b ≠ fl ∧ H' b = some (.lst (nats (gl s.members s.clients))) ∧
        H' fl = some (.lst (nats ((movL s.members (ordL L)).length :: flatZ ((zipG s.members L s.clients).take i))))) (by rw [refs_len, nats_len, X.gl_len]) ?_ ?_ (fun b i x y T σ' H' hx hy ⟨v3, v4, es, ex, hn, hb, hf⟩ H3 e3 => ?_) fun b σ' H' ⟨v3, v4, es, ex, hn, hb, hf⟩ => ?_
    · exact as_v (ev_var rfl) (as_LF (X2.goals TH (ev_var rfl) (ev_var rfl) (e2 _ _ h1)) fun b H3 hb e3 h3 => as_nil fun H4 e4 => ⟨b, rfl, none, none, rfl, e2.trans (e3.trans e4), fun q => (by subst q; rw [h2] at hb; cases hb), e4 _ _ h3, (e3.trans e4) _ _ h2⟩)
    · rintro b i σ' H' ⟨v3, v4, es, ex, hn, hb, hf⟩
      exact ⟨sq_of (ex _ _ h1), sq_of hb⟩
    · subst es
      obtain ⟨a, g, rfl, rfl, hz, ha, hg⟩ := zipG_at hx hy
      have X3 := X.ext (e1.trans (ex.trans e3))
      have hlen : (zipG s.members L s.clients).length ≤ 16 := by rw [X.zip_len]; exact hM
      have hfl2 := flatZ_len ((zipG s.members L s.clients).take i)
      rw [List.length_take] at hfl2
      refine s_ext (e3 _ _ hf) (ev_var rfl) (el_lst (ea_cons (ev_key TC (ev_var rfl) (((X3.hs.ok.ord).mov s.members).at_ a ha)) (ea_cons (ev_var rfl) ea_nil)) (by show 2 ≤ 100000; decide)) ?_ fun H4 e4 => ⟨_, _, rfl, Ex.mut (ex.trans (e3.trans e4)) hfl, hn, ?_, ?_⟩
      · rw [nats_len, List.length_cons, hfl2]
        show _ + 2 ≤ 16777216
        omega
      · rw [upd_ne hn]; exact (e3.trans e4) _ _ hb
      · rw [upd_same, flatZ_succ hz, ← List.cons_append, nats_app]; rfl
    · subst es
      rw [refs_len, ← X.zip_len, List.take_length] at hf
      rw [X.zip_len] at hf
      refine s_ret (ev_var rfl) fun H3 e3 => ?_
      have hk : fMoved s = Vbchaj.ints ((movL s.members (ordL L)).length :: flatZ (zipG s.members L s.clients)) := by
        show Vbchaj.ints ((Vbchaj.told s.members s.clients).length :: (Vbchaj.told s.members s.clients).flatMap fun x => [x.1, x.2]) = _
        rw [X.told, List.length_map, X.zip_len, List.flatMap_map]; rfl
      rw [hk, zs_ints] at k
      exact k fl H3 (fresh_back e1 hfl) (e1.trans (ex.trans e3)) (e3 _ _ hf)
/-! ### counted, left_clients, new_ones -/
def spCounted (K : PySem.W.Frag) (C : Addr) : Sp := fun vs H Q _ => ∃ (a : Addr) (L : List AC), vs = [.ref a] ∧ SqL K H a (refs L) ∧ L.length ≤ 100 ∧ (∀ x ∈ L, ClAt C H x.1 x.2) ∧ RetL (nats (L.length :: keysA L)) H Q
theorem sl_counted {H : Hp} {a : Addr} {L : List AC} (h : SqL K H a (refs L)) (hn : L.length ≤ 100) (hc : ∀ x ∈ L, ClAt C H x.1 x.2) : SpL (spCounted K C) [.ref a] H (nats (L.length :: keysA L)) := fun _ e _ q _ => ⟨a, L, rfl, ex_l e h, hn, fun x hx => (hc x hx).ext e, q⟩
abbrev s_counted : Stmt := top 41
abbrev N_counted : List Str := ["clients", "client"]
abbrev P_counted : List Str := ["clients"]
theorem sc_counted : FnScope N_counted P_counted (defScope s_counted) := ⟨rfl, rfl, rfl, by decide +kernel, rfl, by decide +kernel, by decide +kernel⟩

theorem ok_counted (TC : ClsC K C) (B : Blt mg) (D : Dfn K mg "counted" s_counted P_counted) : Cal P w K mg base 1 "counted" (spCounted K C) := by
  refine cal_of D sc_counted (fun vs H Q E h => ?_) fun f cdv A outer s H vs Q E hr h => ?_
  · obtain ⟨a, b, rfl, _⟩ := h; rfl
  · refine ⟨_, (pss_one (ps_ret (pe_op op_cat (pe_lst (by exact (pa_cons (pe_callB call_len_seq (by rfl) B.len (by decide +kernel) (by exact (pa_cons (pv 0) pa_nil))) pa_nil))) (pe_lc (own := [("client", 1)]) (g := gName 1) rfl sc_counted.nd (pi_list (pv 0)) (blkOk_by (N := N_counted) (sc := defScope s_counted) (by decide +kernel)) (fun _ _ _ _ _ => by exact (pg_name (i := 1) sc_counted.nd rfl (Or.inl rfl))) (fun _ _ _ _ _ => by exact pts_nil) (fun _ _ _ _ _ => by exact (pe_fldK (K := K) rfl (pv 1) rfl)))))), ?_⟩
    obtain ⟨a, L, rfl, hs, hn, hc, k⟩ := h
    refine s_retL (el_to (el_cat (el_lst (ea_cons (ev_len (ev_var rfl) hs) ea_nil) (by show 1 ≤ 100000; decide)) (el_keys TC hn hc (ev_var rfl) hs (fun _ => rfl) (fun _ => rfl)) ?_) ?_) k
    · rw [nats_len, keysA_len]; show 1 + _ ≤ 100000; omega
    · rw [refs_len]; rfl
def leftL (ms : List Mem) (L : List AC) : List AC := (ordL L).filter fun x => !decide (x.2.key ∈ keysA (movL ms (ordL L)))
def newL (ms : List Mem) (L M : List AC) : List AC := M.filter fun x => !decide (x.2.key ∈ keysA (movL ms (ordL L)))
def spLeft (CH C : Addr) : Sp := fun vs H Q _ => ∃ (h rd cl : Addr) (ms : List Mem) (L : List AC), vs = [.ref h] ∧ HsAt CH C H h rd cl ms L ∧ RetL (refs (leftL ms L)) H Q
theorem el_movk {σ : L2.St} {H : Hp} {te : TE} {j : Nat} {vs : List Nat} {h rd cl : Addr} {ms : List Mem} {L : List AC} (TC : ClsC K C) (X : HsAt CH C H h rd cl ms L) (he : Ev te σ H (.ref h)) (hw : ∀ x, wipe ((wipe σ vs).set j (some x)) vs = wipe σ vs) (hv : ∀ v, ((wipe σ vs).set j (some v))[j]? = some (some v)) :
    EvL (tLc (iList K (tCall (spMovedC CH C) [] E0 (tCons te tNil))) (gName j) tYes (tFld K (tVar j) "key") vs) σ H (nats (keysA (movL ms (ordL L)))) :=
  el_keysN TC (X.ok.ord.mov ms).few (fun x hx => (X.ok.ord.mov ms).at_ x hx) (el_movedC he X) hw hv
abbrev s_left_clients : Stmt := top 42
abbrev N_left_clients : List Str := ["house", "keys", "client"]
abbrev P_left_clients : List Str := ["house"]
theorem sc_left_clients : FnScope N_left_clients P_left_clients (defScope s_left_clients) := ⟨rfl, rfl, rfl, by decide +kernel, rfl, by decide +kernel, by decide +kernel⟩

theorem ok_left_clients (TH : ClsH K CH) (TC : ClsC K C) (D : Dfn K mg "left_clients" s_left_clients P_left_clients) (c_moved_clients : Cal P w K mg base 5 "moved_clients" (spMovedC CH C)) (c_in_order : Cal P w K mg base 4 "in_order" (spOrder K C)) :
    Cal P w K mg base 6 "left_clients" (spLeft CH C) := by
  refine cal_of D sc_left_clients (fun vs H Q E h => ?_) fun f cdv A outer s H vs Q E hr h => ?_
  · obtain ⟨a, b, c, d, e, rfl, _⟩ := h; rfl
  · refine ⟨_, (pss_cons (ps_set (i := 1) sc_left_clients.nd rfl (Or.inr rfl) (pe_lc (own := [("client", 2)]) (g := gName 2) rfl sc_left_clients.nd (pi_list (pe_d c_moved_clients hr (by exact (pa_cons (pv 0) pa_nil)))) (blkOk_by (N := N_left_clients) (sc := defScope s_left_clients) (by decide +kernel)) (fun _ _ _ _ _ => by exact (pg_name (i := 2) sc_left_clients.nd rfl (Or.inl rfl))) (fun _ _ _ _ _ => by exact pts_nil) (fun _ _ _ _ _ => by exact (pe_fldK (K := K) rfl (pv 2) rfl))))
  (pss_one (ps_ret (pe_lc (own := [("client", 2)]) (g := gName 2) rfl sc_left_clients.nd (pi_list (pe_d c_in_order hr (by exact (pa_cons (pe_fld (pv 0) rfl) pa_nil)))) (blkOk_by (N := N_left_clients) (sc := defScope s_left_clients) (by decide +kernel)) (fun _ _ _ _ _ => by exact (pg_name (i := 2) sc_left_clients.nd rfl (Or.inl rfl))) (fun _ _ _ _ _ => by exact (pts_one (pt_cmpR (op_ninK (K := K) rfl) (pe_fldK (K := K) rfl (pv 2) rfl) (pv 1) (by rfl)))) (fun _ _ _ _ _ => by exact (pv 2)))))), ?_⟩
    obtain ⟨h, rd, cl, ms, L, rfl, X, k⟩ := h
    refine q_asgL (el_movk TC X (ev_var rfl) (fun _ => rfl) (fun _ => rfl)) fun p H1 hp e1 h1 => ?_
    have X1 := X.ext e1
    exact s_retL (el_lcNM (ordL L) (fun y => V.ref y.1) (fun y => V.ref y.1) (fun y => !decide (y.2.key ∈ keysA (movL ms (ordL L)))) (el_order TH (ev_var rfl) X1) (by rw [ordL_len]; have := X.ok.few; omega) (fun _ => rfl)
      (fun y hy H2 e2 => et_test (ev_ninN (ev_key TC (ev_var rfl) ((X1.ok.ord.ext e2).at_ y hy)) (ev_var rfl) (sq_of (e2 _ _ h1)))) fun y hy H2 e2 _ => ev_var rfl) fun q H2 hq e2 h2 => k q H2 (fresh_back e1 hq) (e1.trans e2) h2
def spNew (K : PySem.W.Frag) (CH C : Addr) : Sp := fun vs H Q _ => ∃ (h rd cl a : Addr) (ms : List Mem) (L M : List AC), vs = [.ref h, .ref a] ∧ HsAt CH C H h rd cl ms L ∧ SqL K H a (refs M) ∧ M.length ≤ 100 ∧ (∀ x ∈ M, ClAt C H x.1 x.2) ∧ RetL (refs (newL ms L M)) H Q
abbrev s_new_ones : Stmt := top 50
abbrev N_new_ones : List Str := ["house", "clients", "keys", "client"]
abbrev P_new_ones : List Str := ["house", "clients"]
theorem sc_new_ones : FnScope N_new_ones P_new_ones (defScope s_new_ones) := ⟨rfl, rfl, rfl, by decide +kernel, rfl, by decide +kernel, by decide +kernel⟩

theorem ok_new_ones (TC : ClsC K C) (D : Dfn K mg "new_ones" s_new_ones P_new_ones) (c_moved_clients : Cal P w K mg base 5 "moved_clients" (spMovedC CH C)) : Cal P w K mg base 6 "new_ones" (spNew K CH C) := by
  refine cal_of D sc_new_ones (fun vs H Q E h => ?_) fun f cdv A outer s H vs Q E hr h => ?_
  · obtain ⟨a, b, c, d, e, g, i, rfl, _⟩ := h; rfl
  · refine ⟨_, (pss_cons (ps_set (i := 2) sc_new_ones.nd rfl (Or.inr rfl) (pe_lc (own := [("client", 3)]) (g := gName 3) rfl sc_new_ones.nd (pi_list (pe_d c_moved_clients hr (by exact (pa_cons (pv 0) pa_nil)))) (blkOk_by (N := N_new_ones) (sc := defScope s_new_ones) (by decide +kernel)) (fun _ _ _ _ _ => by exact (pg_name (i := 3) sc_new_ones.nd rfl (Or.inl rfl))) (fun _ _ _ _ _ => by exact pts_nil) (fun _ _ _ _ _ => by exact (pe_fldK (K := K) rfl (pv 3) rfl))))
  (pss_one (ps_ret (pe_lc (own := [("client", 3)]) (g := gName 3) rfl sc_new_ones.nd (pi_list (pv 1)) (blkOk_by (N := N_new_ones) (sc := defScope s_new_ones) (by decide +kernel)) (fun _ _ _ _ _ => by exact (pg_name (i := 3) sc_new_ones.nd rfl (Or.inl rfl))) (fun _ _ _ _ _ => by exact (pts_one (pt_cmpR (op_ninK (K := K) rfl) (pe_fldK (K := K) rfl (pv 3) rfl) (pv 2) (by rfl)))) (fun _ _ _ _ _ => by exact (pv 3)))))), ?_⟩
    obtain ⟨h, rd, cl, a, ms, L, M, rfl, X, hs, hn, hc, k⟩ := h
    refine q_asgL (el_movk TC X (ev_var rfl) (fun _ => rfl) (fun _ => rfl)) fun p H1 hp e1 h1 => ?_
    exact s_retL (el_lcM M (fun y => V.ref y.1) (fun y => V.ref y.1) (fun y => !decide (y.2.key ∈ keysA (movL ms (ordL L)))) (ev_var rfl) (ex_l e1 hs) (by omega) (fun _ => rfl)
      (fun y hy H2 e2 => et_test (ev_ninN (ev_key TC (ev_var rfl) ((hc y hy).ext (e1.trans e2))) (ev_var rfl) (sq_of (e2 _ _ h1)))) fun y hy H2 e2 _ => ev_var rfl) fun q H2 hq e2 h2 => k q H2 (fresh_back e1 hq) (e1.trans e2) h2
/-! ### where -/
def fWhere (s : Vbchaj.State) (z : Int) : List Int := (Vbchaj.step s (.where_ z)).2
abbrev s_where : Stmt := top 43
abbrev N_where : List Str := ["house", "key", "clients", "client", "goal"]
abbrev P_where : List Str := ["house", "key"]
theorem sc_where : FnScope N_where P_where (defScope s_where) := ⟨rfl, rfl, rfl, by decide +kernel, rfl, by decide +kernel, by decide +kernel⟩

theorem ok_where (TH : ClsH K CH) (TC : ClsC K C) (TR : RefTxt K mg R fI) (B : Blt mg) (D : Dfn K mg "where" s_where P_where) (x_look_key : CalX P w K mg base 4 "look_key" (spKey R)) (x_known_client : CalX P w K mg base 3 "known_client" (spKnown CH C R))
    (c_moved_clients : Cal P w K mg base 5 "moved_clients" (spMovedC CH C)) (c_placing : Cal P w K mg base 4 "placing" (spPlacing K C)) : CalX P w K mg base 6 "where" (spA1 CH C R fWhere) := by
  refine calX_of D sc_where (fun vs H Q E h => ?_) fun f cdv A outer s H vs Q E hr h => ?_
  · obtain ⟨a, b, c, d, e, g, rfl, _⟩ := h; rfl
  · refine ⟨_, (pss_cons (ps_expr (pe_x x_look_key hr (takes_of rfl rfl rfl rfl) (by exact (pa_cons (pv 1) pa_nil))))
  (pss_cons (ps_expr (pe_x x_known_client hr (takes_of rfl rfl rfl rfl) (by exact (pa_cons (pv 0) (pa_cons (pv 1) pa_nil)))))
  (pss_cons (ps_set (i := 2) sc_where.nd rfl (Or.inl rfl) (pe_d c_moved_clients hr (by exact (pa_cons (pv 0) pa_nil))))
  (pss_cons (ps_for (passes_of rfl) rfl (pi_zip (by rfl) B.zip (by exact (pa_cons (pv 2) (pa_cons (pe_d c_placing hr (by exact (pa_cons (pe_fld (pv 0) rfl) (pa_cons (pv 2) pa_nil)))) pa_nil)))) (pg_tup rfl (pgs_cons (pg_name (i := 3) sc_where.nd rfl (Or.inl rfl)) (pgs_cons (pg_name (i := 4) sc_where.nd rfl (Or.inl rfl)) pgs_nil)))
  (pss_one (ps_if (pt_cmpR op_eq (pe_fld (pv 3) rfl) (pv 1) (nomark _)) (pss_one (ps_ret (pe_lst (by exact (pa_cons (pv 4) pa_nil))))) pss_nil)))
  (pss_one (ps_ret (pe_lst (by exact (pa_cons pe_int pa_nil))))))))), ?_⟩
    obtain ⟨h, rd, cl, s, L, z, rfl, X, k⟩ := h
    refine q_key (ev_var rfl) (fun hb => k.no _ (congrArg Prod.snd (onC1 hb)) (by decide)) fun hz H0 e0 => ?_
    refine q_knownD (X.ext e0) (ev_var rfl) (ev_var rfl) hz (fun hb => (k.no _ (congrArg Prod.snd (onC4 hz hb)) (by decide)).go e0) fun y hy hyz hyk hc H1' e1' => ?_
    have hk : fWhere s z = Vbchaj.ints [(((zipG s.members L s.clients).find? fun x => decide ((x.1.2.key : Int) = z)).map Prod.snd).getD 0] := by
      refine (congrArg Prod.snd (onC0 hz hc)).trans ?_
      show [(Vbchaj.placeOf (Vbchaj.told s.members s.clients) y.2.key : Int)] = _
      unfold Vbchaj.placeOf
      rw [X.told, List.find?_map]
      have e : ((fun x : Nat × Nat => x.1 == y.2.key) ∘ fun z : AC × Nat => (z.1.2.key, z.2)) = fun x => decide ((x.1.2.key : Int) = z) := by
        funext x
        show (x.1.2.key == y.2.key) = _
        rw [Bool.eq_iff_iff, beq_iff_eq, decide_eq_true_iff]
        omega
      rw [e]
      cases (zipG s.members L s.clients).find? fun x => decide ((x.1.2.key : Int) = z) <;> rfl
    have k := k.nats hk
    have ea := e0.trans e1'
    refine q_asgL (el_movedC (ev_var rfl) (X.ext ea).hs) fun p H1 hp e1 h1 => ?_
    have X1 := X.ext (ea.trans e1)
    refine q_forZ (xs := refs (movL s.members (ordL L))) (ys := nats (gl s.members s.clients)) (a := p) (fun b i σ' H' => ∃ v3 v4, σ' = [some (.ref h), some (.int z), some (.ref p), v3, v4] ∧ Ex H1 H' ∧ H' b = some (.lst (nats (gl s.members s.clients))) ∧
        ((zipG s.members L s.clients).take i).find? (fun x => decide ((x.1.2.key : Int) = z)) = none) (by rw [refs_len, nats_len, X.gl_len]) ?_ ?_ (fun b i x y T σ' H' hx hy ⟨v3, v4, es, ex, hb, hf⟩ H3 e3 => ?_) fun b σ' H' ⟨v3, v4, es, ex, hb, hf⟩ => ?_
    · exact as_v (ev_var rfl) (as_L (X1.goals TH (ev_var rfl) (ev_var rfl) h1) fun b H3 e3 h3 => as_nil fun H4 e4 => ⟨b, rfl, none, none, rfl, e3.trans e4, e4 _ _ h3, rfl⟩)
    · rintro b i σ' H' ⟨v3, v4, es, ex, hb, hf⟩
      exact ⟨sq_of (ex _ _ h1), sq_of hb⟩
    · subst es
      obtain ⟨a, g, rfl, rfl, hz', ha, hg⟩ := zipG_at hx hy
      have X3 := X1.ext (ex.trans e3)
      have hft := find_takeG hz' hf
      refine s_when (et_op (ev_key TC (ev_var rfl) ((X3.hs.ok.ord.mov s.members).at_ a ha)) (ev_var rfl) (rv_eqI _ _)) (fun hb' H4 e4 => ?_) (fun hb' H4 e4 => ⟨_, _, rfl, ex.trans (e3.trans e4), (e3.trans e4) _ _ hb, ?_⟩)
      · rw [if_pos hb'] at hft
        rw [find_moreG hft] at k
        exact s_retL (el_lst (ea_cons (ev_var rfl) ea_nil) (by show 1 ≤ 100000; decide)) fun q H5 hq e5 h5 => k q H5 (fresh_back (ea.trans (e1.trans (ex.trans (e3.trans e4)))) hq) ((ea.trans (e1.trans (ex.trans (e3.trans e4)))).trans e5) h5
      · rw [if_neg (by rw [hb']; decide)] at hft
        exact hft
    · subst es
      rw [refs_len, ← X.zip_len, List.take_length] at hf
      rw [hf] at k
      exact s_retL (el_lst (ea_cons ev_c ea_nil) (by show 1 ≤ 100000; decide)) fun q H5 hq e5 h5 => k q H5 (fresh_back (ea.trans (e1.trans ex)) hq) ((ea.trans (e1.trans ex)).trans e5) h5
end
end Cw
namespace Cw
open PySem PySem.Spec PyProof.Rows L2 Evl
open PySem.RefX (RefTxt)
open Cm (keysM setN isW hasB roomSl goesIn keptToo isFreeB withoutPlace movedBy allSl freeOf goalsOf GoalsOk keysOf leastOf isProof proofsOf boundsOf coversOf Inv Wn ckeys gl lessBy)
/-! ### words -/
theorem zs_nats {ns : List Int} (h : ∀ z ∈ ns, 0 ≤ z) : zs ns = nats (Vbchaj.nats ns) := by
  unfold zs nats Vbchaj.nats
  rw [List.map_map]
  refine List.map_congr_left fun z hz => ?_
  show V.int z = V.int ((z.toNat : Nat) : Int)
  rw [Int.toNat_of_nonneg (h z hz)]
theorem keyed_pos {z : Int} (h : Vbchaj.keyed z = true) : (z.toNat : Int) = z := by have := (keyed_iff z).mp h; omega
theorem listed_pos {ns : List Int} (h : Vbchaj.listed ns = true) : ∀ z ∈ ns, 0 ≤ z := fun z hz => by have := (keyed_iff z).mp (((listed_iff ns).mp h).2 z hz); omega
theorem known_mem {s : Vbchaj.State} {ns : List Int} (h : Vbchaj.known s ns = true) : ∀ k ∈ Vbchaj.nats ns, k ∈ keysM s.members := fun k hk => by
  obtain ⟨z, hz, rfl⟩ := List.mem_map.mp hk
  rw [known_kn] at h
  exact of_decide_eq_true (List.all_eq_true.mp h z hz)
theorem not_neg_one {b : Bool} : ¬ Neg [if b = true then (1 : Int) else 0] := not_neg fun z hz => by
  obtain rfl := List.mem_singleton.mp hz
  cases b <;> decide
section
variable {CH C R : Addr} {H : Hp} {h rd cl : Addr} {s : Vbchaj.State} {L : List AC}
theorem HouseAt.few8 (x : HouseAt CH C H h rd cl s L) : (keysM s.members).length ≤ 1000 := by rw [keys_len]; have := x.inv.few; omega
theorem bef_eq (x : HouseAt CH C H h rd cl s L) {y : AC} (hy : y ∈ L) : (befL L y.2).map Prod.snd = Vbchaj.beforeOf s.clients y.2 := by
  unfold befL
  rw [List.map_take, keysA_map, x.ord]
  exact Cm.before_take x.inv (x.memc hy)
theorem others_eq (x : HouseAt CH C H h rd cl s L) {y : AC} (hy : y ∈ L) : othersOf s.members L y.2 = (Vbchaj.movedOf s.members (Vbchaj.beforeOf s.clients y.2)).map fun d => setN (keysM s.members) d.takers := by
  rw [← Cm.before_moved x.inv (x.memc hy), ← x.mov, ← bef_eq x hy, ← keysA_map, ← filt_map, List.map_map]
  rfl
theorem owns_perm (x : HouseAt CH C H h rd cl s L) : (ownsA (keysM s.members) L).Perm (s.clients.map fun c => setN (keysM s.members) c.takers) := by
  have := x.perm.map fun c : Cli => setN (keysM s.members) c.takers
  rw [List.map_map] at this
  exact this
theorem set_len (x : HouseAt CH C H h rd cl s L) {l : List Nat} (nd : l.Nodup) (hs : ∀ k ∈ l, k ∈ keysM s.members) : setN (keysM s.members) l < (roomSl s.members).length := by
  rw [Cm.rooms_len x.inv.wn.nk, ← Cm.klen]; exact Cm.setN_lt nd hs
theorem newL_keys (x : HouseAt CH C H h rd cl s L) (M : List AC) : keysA (newL s.members L M) = Vbchaj.newIn (M.map Prod.snd) (Vbchaj.movedOf s.members s.clients) := by
  rw [Cm.new_in, ← x.movk, ← filt_map, ← keysA_map]; rfl
theorem counted_keys {M : List AC} {l : List Nat} (h : keysA M = l) : Vbchaj.ints (M.length :: keysA M) = Vbchaj.counted l := by
  subst h
  unfold Vbchaj.counted
  rw [keysA_len]
end
section
variable {P : Program} {w : World} {K : PySem.W.Frag} {mg : Str → Option Value} {base : Heap} {C CH R fI : Addr}
/-! ### is_moved, tell_set -/
def spIsMoved (CH C : Addr) : Sp := fun vs H Q _ => ∃ (h rd cl : Addr) (ms : List Mem) (L : List AC) (k : Nat), vs = [.ref h, nV k] ∧ HsAt CH C H h rd cl ms L ∧ RetV (.bl (decide (k ∈ keysA (movL ms (ordL L))))) H Q
abbrev s_is_moved : Stmt := top 44
abbrev N_is_moved : List Str := ["house", "key", "client"]
abbrev P_is_moved : List Str := ["house", "key"]
theorem sc_is_moved : FnScope N_is_moved P_is_moved (defScope s_is_moved) := ⟨rfl, rfl, rfl, by decide +kernel, rfl, by decide +kernel, by decide +kernel⟩

theorem ok_is_moved (TC : ClsC K C) (D : Dfn K mg "is_moved" s_is_moved P_is_moved) (c_moved_clients : Cal P w K mg base 5 "moved_clients" (spMovedC CH C)) : Cal P w K mg base 6 "is_moved" (spIsMoved CH C) := by
  refine cal_of D sc_is_moved (fun vs H Q E h => ?_) fun f cdv A outer s H vs Q E hr h => ?_
  · obtain ⟨a, b, c, d, e, g, rfl, _⟩ := h; rfl
  · refine ⟨_, (pss_one (ps_ret (pe_cmpR op_in_seq (pv 1) (pe_lc (own := [("client", 2)]) (g := gName 2) rfl sc_is_moved.nd (pi_list (pe_d c_moved_clients hr (by exact (pa_cons (pv 0) pa_nil)))) (blkOk_by (N := N_is_moved) (sc := defScope s_is_moved) (by decide +kernel)) (fun _ _ _ _ _ => by exact (pg_name (i := 2) sc_is_moved.nd rfl (Or.inl rfl))) (fun _ _ _ _ _ => by exact pts_nil) (fun _ _ _ _ _ => by exact (pe_fldK (K := K) rfl (pv 2) rfl))) (by rfl)))), ?_⟩
    obtain ⟨h, rd, cl, ms, L, z, rfl, X, k⟩ := h
    exact s_ret (ev_opL (ev_var rfl) (el_movk TC X (ev_var rfl) (fun _ => rfl) (fun _ => rfl)) fun p H1 hp e => by
      have := rv_isL (K := K) (x := nV z) (sq_of hp) rfl (flat_nats _)
      rw [inV_nats] at this
      exact this) k
theorem ev_isMoved {σ : L2.St} {H : Hp} {ta tb : TE} {h rd cl : Addr} {s : Vbchaj.State} {L : List AC} {z : Int} {y : AC} {E : XK} (X : HouseAt CH C H h rd cl s L) (he : Ev ta σ H (.ref h)) (hz : Ev tb σ H (.int z)) (hy : y.2.key = z.toNat) (h0 : Vbchaj.keyed z = true) :
    Ev (tCall (spIsMoved CH C) [] E (tCons ta (tCons tb tNil))) σ H (.bl (Vbchaj.isMoved s y.2)) := by
  rw [Cm.isMoved_iff, ← X.movk, hy]
  exact ev_cal (as_v he (as_v hz (as_nil fun H1 e H2 e2 Q q E => ⟨h, rd, cl, s.members, L, z.toNat, by show [V.ref h, V.int z] = [V.ref h, V.int (z.toNat : Int)]; rw [keyed_pos h0], X.hs.ext (e.trans e2), q⟩)))
def spTellSet (CH C : Addr) : Sp := fun vs H Q _ => ∃ (h rd cl : Addr) (ms : List Mem) (L : List AC) (X : Nat), vs = [.ref h, nV X] ∧ HsAt CH C H h rd cl ms L ∧ RetL (nats ((keysOf (keysM ms) X).length :: keysOf (keysM ms) X)) H Q
theorem keysOf_few (ks : List Nat) (X : Nat) : (keysOf ks X).length ≤ ks.length := by
  unfold keysOf
  rw [List.length_map]
  exact Nat.le_trans (List.length_filter_le _ _) (by rw [List.length_range]; exact Nat.le_refl _)
abbrev s_tell_set : Stmt := top 45
abbrev N_tell_set : List Str := ["house", "chosen", "keys"]
abbrev P_tell_set : List Str := ["house", "chosen"]
theorem sc_tell_set : FnScope N_tell_set P_tell_set (defScope s_tell_set) := ⟨rfl, rfl, rfl, by decide +kernel, rfl, by decide +kernel, by decide +kernel⟩

theorem ok_tell_set (TH : ClsH K CH) (B : Blt mg) (D : Dfn K mg "tell_set" s_tell_set P_tell_set) (c_members_of : Cal P w K mg base 1 "members_of" spMembers) (c_keys_of : Cal P w K mg base 2 "keys_of" (spKeysOf K)) :
    Cal P w K mg base 3 "tell_set" (spTellSet CH C) := by
  refine cal_of D sc_tell_set (fun vs H Q E h => ?_) fun f cdv A outer s H vs Q E hr h => ?_
  · obtain ⟨a, b, c, d, e, g, rfl, _⟩ := h; rfl
  · refine ⟨_, (pss_cons (ps_set (i := 2) sc_tell_set.nd rfl (Or.inl rfl) (pe_d c_keys_of hr (by exact (pa_cons (pe_d c_members_of hr (by exact (pa_cons (pe_fld (pv 0) rfl) pa_nil))) (pa_cons (pv 1) pa_nil)))))
  (pss_one (ps_ret (pe_op op_cat (pe_lst (by exact (pa_cons (pe_callB call_len_seq (by rfl) B.len (by decide +kernel) (by exact (pa_cons (pv 2) pa_nil))) pa_nil))) (pv 2))))), ?_⟩
    obtain ⟨h, rd, cl, ms, L, X, rfl, Y, k⟩ := h
    have h8 : (keysM ms).length ≤ 8 := by rw [keys_len]; exact Y.rooms.few
    have hk := keysOf_few (keysM ms) X
    refine q_asgL (el_cal (as_L (el_cal (as_v (ev_rooms TH (ev_var rfl) Y) (as_nil fun H2 e => sl_members (Y.ext e).rooms))) fun p H1 e1 h1 => as_v (ev_var rfl) (as_nil fun H2 e2 => sl_keysOf (sq_of (e2 _ _ h1)) (by omega)))) fun p H1 hp e1 h1 => ?_
    refine s_retL (el_to (el_catV (el_lst (ea_cons (ev_len (ev_var rfl) (sq_of h1)) ea_nil) (by show 1 ≤ 100000; decide)) (ev_var rfl) h1 ?_) ?_) fun q H2 hq e2 h2 => k q H2 (fresh_back e1 hq) (e1.trans e2) h2
    · rw [nats_len]; show 1 + _ ≤ 100000; omega
    · rw [nats_len]; rfl
theorem el_tellSet {σ : L2.St} {H : Hp} {ta tb : TE} {h rd cl : Addr} {ms : List Mem} {L : List AC} {X : Nat} {E : XK} (Y : HsAt CH C H h rd cl ms L) (he : Ev ta σ H (.ref h)) (hx : Ev tb σ H (nV X)) :
    EvL (tCall (spTellSet CH C) [] E (tCons ta (tCons tb tNil))) σ H (nats ((keysOf (keysM ms) X).length :: keysOf (keysM ms) X)) :=
  el_cal (as_v he (as_v hx (as_nil fun H1 e H2 e2 Q q E => ⟨h, rd, cl, ms, L, X, rfl, Y.ext (e.trans e2), q⟩)))
/-! ### why -/
def fWhy (s : Vbchaj.State) (z : Int) : List Int := (Vbchaj.step s (.why z)).2
abbrev s_why : Stmt := top 46
abbrev N_why : List Str := ["house", "key", "client"]
abbrev P_why : List Str := ["house", "key"]
theorem sc_why : FnScope N_why P_why (defScope s_why) := ⟨rfl, rfl, rfl, by decide +kernel, rfl, by decide +kernel, by decide +kernel⟩

theorem ok_why (TR : RefTxt K mg R fI) (D : Dfn K mg "why" s_why P_why) (x_look_key : CalX P w K mg base 4 "look_key" (spKey R)) (x_known_client : CalX P w K mg base 3 "known_client" (spKnown CH C R))
    (c_is_moved : Cal P w K mg base 6 "is_moved" (spIsMoved CH C)) (c_tell_set : Cal P w K mg base 3 "tell_set" (spTellSet CH C)) (c_least_proof : Cal P w K mg base 7 "least_proof" (spLeastP CH C)) : CalX P w K mg base 8 "why" (spA1 CH C R fWhy) := by
  refine calX_of D sc_why (fun vs H Q E h => ?_) fun f cdv A outer s H vs Q E hr h => ?_
  · obtain ⟨a, b, c, d, e, g, rfl, _⟩ := h; rfl
  · refine ⟨_, (pss_cons (ps_expr (pe_x x_look_key hr (takes_of rfl rfl rfl rfl) (by exact (pa_cons (pv 1) pa_nil))))
  (pss_cons (ps_set (i := 2) sc_why.nd rfl (Or.inl rfl) (pe_x x_known_client hr (takes_of rfl rfl rfl rfl) (by exact (pa_cons (pv 0) (pa_cons (pv 1) pa_nil)))))
  (pss_cons (ps_if (pt_val (pe_d c_is_moved hr (by exact (pa_cons (pv 0) (pa_cons (pv 1) pa_nil))))) (pss_one (ps_raiseRef rfl TR hr (takes_of rfl rfl rfl rfl) (by exact (pa_cons (pe_un un_neg pe_int) pa_nil)))) pss_nil)
  (pss_one (ps_ret (pe_d c_tell_set hr (by exact (pa_cons (pv 0) (pa_cons (pe_d c_least_proof hr (by exact (pa_cons (pv 0) (pa_cons (pv 2) pa_nil)))) pa_nil))))))))), ?_⟩
    obtain ⟨h, rd, cl, s, L, z, rfl, X, k⟩ := h
    refine q_key (ev_var rfl) (fun hb => k.no _ (congrArg Prod.snd (onC1 hb)) (by decide)) fun hz H0 e0 => ?_
    refine q_known (X.ext e0) (ev_var rfl) (ev_var rfl) hz (fun hb => (k.no _ (congrArg Prod.snd (onC4 hz hb)) (by decide)).go e0) fun y hy hyz hyk hc H1 e1 => ?_
    have e01 := e0.trans e1
    have X1 := X.ext e01
    have hf : fWhy s z = (if Vbchaj.isMoved s y.2 = true then [-6] else Vbchaj.counted (Vbchaj.whySet s.members s.clients y.2)) := by
      refine (congrArg Prod.snd (onC0 hz hc)).trans ?_
      show (if Vbchaj.isMoved s y.2 = true then (s, [-6]) else (s, Vbchaj.counted (Vbchaj.whySet s.members s.clients y.2))).2 = _
      split <;> rfl
    refine q_when (et_B (ev_isMoved X1 (ev_var rfl) (ev_var rfl) hyk hz)) (fun hb H2 e2 => s_raise (ev_neg ev_c) ((k.no _ (by rw [hf, if_pos hb]) (by decide)).go (e01.trans e2))) (fun hb H2 e2 => ?_)
    have X2 := X1.ext e2
    obtain ⟨w1, w2⟩ := Cm.why_of X.inv (X.memc hy) hb
    rw [← others_eq X hy] at w1 w2
    refine s_retL (el_tellSet X2.hs (ev_var rfl) (ev_cal (as_v (ev_var rfl) (as_v (ev_var rfl) (as_nil fun H3 e3 H4 e4 Q q E => ⟨h, rd, cl, s.members, L, y, rfl, X2.hs.ext (e3.trans e4), hy, w2, q⟩))))) ?_
    rw [w1]
    exact retL_mono (k.nats (by rw [hf, if_neg (by rw [hb]; decide)]; rfl)) (e01.trans e2)
/-! ### check, bound, cover -/
def fCheck (s : Vbchaj.State) (z : Int) (l : List Int) : List Int := (Vbchaj.step s (.check z l)).2
theorem check1 {s : Vbchaj.State} {z : Int} {l : List Int} (h : Vbchaj.keyed z = false) : fCheck s z l = [-1] := by
  show (if Vbchaj.keyed z = false then (s, [-1]) else _ : Vbchaj.State × List Int).2 = _
  rw [if_pos h]
theorem check0 {s : Vbchaj.State} {z : Int} {l : List Int} (h : Vbchaj.keyed z = true) : fCheck s z l = (Vbchaj.onList s l fun l => Vbchaj.onClient s z fun c => (s, [if Vbchaj.proves s.members s.clients c l = true then 1 else 0])).2 := by
  show (if Vbchaj.keyed z = false then (s, [-1]) else _ : Vbchaj.State × List Int).2 = _
  rw [if_neg (by rw [h]; decide)]
abbrev s_check : Stmt := top 47
abbrev N_check : List Str := ["house", "key", "row", "client"]
abbrev P_check : List Str := ["house", "key", "row"]
theorem sc_check : FnScope N_check P_check (defScope s_check) := ⟨rfl, rfl, rfl, by decide +kernel, rfl, by decide +kernel, by decide +kernel⟩

theorem ok_check (TH : ClsH K CH) (B : Blt mg) (D : Dfn K mg "check" s_check P_check) (x_look_key : CalX P w K mg base 4 "look_key" (spKey R)) (x_look_list : CalX P w K mg base 5 "look_list" (spList K R)) (x_look_members : CalX P w K mg base 3 "look_members" (spLookM K CH C R))
    (x_known_client : CalX P w K mg base 3 "known_client" (spKnown CH C R)) (c_proves : Cal P w K mg base 7 "proves" (spProves CH C)) (c_set_of : Cal P w K mg base 2 "set_of" (spSetOf K)) (c_members_of : Cal P w K mg base 1 "members_of" spMembers) :
    CalX P w K mg base 8 "check" (spA1L K CH C R fCheck) := by
  refine calX_of D sc_check (fun vs H Q E h => ?_) fun f cdv A outer s H vs Q E hr h => ?_
  · obtain ⟨a, b, c, d, e, g, i, j, rfl, _⟩ := h; rfl
  · refine ⟨_, (pss_cons (ps_expr (pe_x x_look_key hr (takes_of rfl rfl rfl rfl) (by exact (pa_cons (pv 1) pa_nil))))
  (pss_cons (ps_expr (pe_x x_look_list hr (takes_of rfl rfl rfl rfl) (by exact (pa_cons (pv 2) pa_nil))))
  (pss_cons (ps_expr (pe_x x_look_members hr (takes_of rfl rfl rfl rfl) (by exact (pa_cons (pv 0) (pa_cons (pv 2) pa_nil)))))
  (pss_cons (ps_set (i := 3) sc_check.nd rfl (Or.inl rfl) (pe_x x_known_client hr (takes_of rfl rfl rfl rfl) (by exact (pa_cons (pv 0) (pa_cons (pv 1) pa_nil)))))
  (pss_one (ps_ret (pe_lst (by exact (pa_cons (pe_callTy call_int1 (by rfl) B.int (by decide +kernel) (by exact (pa_cons (pe_d c_proves hr (by exact (pa_cons (pv 0) (pa_cons (pv 3) (pa_cons (pe_d c_set_of hr (by exact (pa_cons (pe_d c_members_of hr (by exact (pa_cons (pe_fld (pv 0) rfl) pa_nil))) (pa_cons (pv 2) pa_nil)))) pa_nil))))) pa_nil))) pa_nil))))))))), ?_⟩
    obtain ⟨h, rd, cl, a, s, L, z, ns, rfl, X, hs, hn, k⟩ := h
    refine q_key (ev_var rfl) (fun hb => k.no _ (check1 hb) (by decide)) fun hz H0 e0 => ?_
    have hf := check0 (s := s) (l := ns) hz
    refine q_list (ev_var rfl) (ex_l e0 hs) hn (fun hb => (k.no _ (hf.trans (congrArg Prod.snd (onL1 hb))) (by decide)).go e0) (fun hl hb => (k.no _ (hf.trans (congrArg Prod.snd (onL3 hl hb))) (by decide)).go e0) fun hl hd H1 e1 => ?_
    have e01 := e0.trans e1
    refine q_members (X.ext e01) (ev_var rfl) (ev_var rfl) (ex_l e01 hs) hn (listed_pos hl) (fun hb => (k.no _ (hf.trans (congrArg Prod.snd (onL4 hl hd hb))) (by decide)).go e01) fun hk H2 e2 => ?_
    have e02 := e01.trans e2
    have hf := hf.trans (congrArg Prod.snd (onL0 hl hd hk))
    refine q_known (X.ext e02) (ev_var rfl) (ev_var rfl) hz (fun hb => (k.no _ (hf.trans (congrArg Prod.snd (onC4 hz hb))) (by decide)).go e02) fun y hy hyz hyk hc H3 e3 => ?_
    have e03 := e02.trans e3
    have X3 := X.ext e03
    have hf := hf.trans (congrArg Prod.snd (onC0 hz hc))
    have nd := (distinct_iff _).mp hd
    have hX := set_len X nd (known_mem hk)
    have hs3 := ex_l e03 hs
    rw [zs_nats (listed_pos hl)] at hs3
    have hl8 : (Vbchaj.nats ns).length ≤ 1000 := by unfold Vbchaj.nats; rw [List.length_map]; omega
    have ev : Ev (tCall (spProves CH C) [] E0 (tCons (tVar 0) (tCons (tVar 3) (tCons (tCall (spSetOf K) [] E0 (tCons (tCall spMembers [] E0 (tCons (tFld K (tVar 0) "rooms") tNil)) (tCons (tVar 2) tNil))) tNil)))) [some (.ref h), some (.int z), some (.ref a), some (.ref y.1)] H3 (.bl (Vbchaj.proves s.members s.clients y.2 (Vbchaj.nats ns))) := by
      refine ev_to (ev_cal (as_v (ev_var rfl) (as_v (ev_var rfl) (as_v (ev_setH TH X3.hs (ev_var rfl) (ev_var rfl) hs3 (known_mem hk) hl8) (as_nil fun H4 e4 H5 e5 Q q E => ⟨h, rd, cl, s.members, L, y, setN (keysM s.members) (Vbchaj.nats ns), rfl, X3.hs.ext (e4.trans e5), hy, hX, q⟩))))) ?_
      rw [Cm.proves_eq X.inv.wn (X.memc hy) nd (known_mem hk), others_eq X hy]
    have k0 := k.yes (by rw [hf]; exact not_neg_one)
    rw [hf] at k0
    exact s_retL (el_lst (ea_cons (ev_cbs (as_v ev (as_nil fun H4 e4 => rc_intB _))) ea_nil) (by show 1 ≤ 100000; decide)) (retL_mono k0 e03)
def fBound (s : Vbchaj.State) (l : List Int) : List Int := (Vbchaj.step s (.bound l)).2
abbrev s_bound : Stmt := top 48
abbrev N_bound : List Str := ["house", "row"]
abbrev P_bound : List Str := ["house", "row"]
theorem sc_bound : FnScope N_bound P_bound (defScope s_bound) := ⟨rfl, rfl, rfl, by decide +kernel, rfl, by decide +kernel, by decide +kernel⟩

theorem ok_bound (TH : ClsH K CH) (D : Dfn K mg "bound" s_bound P_bound) (x_look_list : CalX P w K mg base 5 "look_list" (spList K R)) (x_look_members : CalX P w K mg base 3 "look_members" (spLookM K CH C R))
    (c_bounds : Cal P w K mg base 3 "bounds" (spBounds CH C)) (c_set_of : Cal P w K mg base 2 "set_of" (spSetOf K)) (c_members_of : Cal P w K mg base 1 "members_of" spMembers) :
    CalX P w K mg base 6 "bound" (spAL K CH C R fBound) := by
  refine calX_of D sc_bound (fun vs H Q E h => ?_) fun f cdv A outer s H vs Q E hr h => ?_
  · obtain ⟨a, b, c, d, e, g, i, rfl, _⟩ := h; rfl
  · refine ⟨_, (pss_cons (ps_expr (pe_x x_look_list hr (takes_of rfl rfl rfl rfl) (by exact (pa_cons (pv 1) pa_nil))))
  (pss_cons (ps_expr (pe_x x_look_members hr (takes_of rfl rfl rfl rfl) (by exact (pa_cons (pv 0) (pa_cons (pv 1) pa_nil)))))
  (pss_one (ps_ret (pe_lst (by exact (pa_cons (pe_ix ix_list (pe_d c_bounds hr (by exact (pa_cons (pv 0) pa_nil))) (pe_d c_set_of hr (by exact (pa_cons (pe_d c_members_of hr (by exact (pa_cons (pe_fld (pv 0) rfl) pa_nil))) (pa_cons (pv 1) pa_nil)))) (fun _ _ => rfl)) pa_nil))))))), ?_⟩
    obtain ⟨h, rd, cl, a, s, L, ns, rfl, X, hs, hn, k⟩ := h
    refine q_list (ev_var rfl) hs hn (fun hb => k.no _ (congrArg Prod.snd (onL1 hb)) (by decide)) (fun hl hb => k.no _ (congrArg Prod.snd (onL3 hl hb)) (by decide)) fun hl hd H1 e1 => ?_
    refine q_members (X.ext e1) (ev_var rfl) (ev_var rfl) (ex_l e1 hs) hn (listed_pos hl) (fun hb => (k.no _ (congrArg Prod.snd (onL4 hl hd hb)) (by decide)).go e1) fun hk H2 e2 => ?_
    have e02 := e1.trans e2
    have X2 := X.ext e02
    have hf : fBound s ns = [(Vbchaj.boundOf s.members s.clients (Vbchaj.nats ns) : Int)] := congrArg Prod.snd (onL0 hl hd hk)
    have nd := (distinct_iff _).mp hd
    have hs3 := ex_l e02 hs
    rw [zs_nats (listed_pos hl)] at hs3
    have hl8 : (Vbchaj.nats ns).length ≤ 1000 := by unfold Vbchaj.nats; rw [List.length_map]; omega
    obtain ⟨b1, b2⟩ := Cm.boundOf_eq X.inv.wn (owns_perm X) nd (known_mem hk)
    refine s_retL (el_lst (ea_cons (x := .int ((boundsOf s.members (ownsA (keysM s.members) L)).getD (setN (keysM s.members) (Vbchaj.nats ns)) 0)) (ev_opL1 (el_cal (as_v (ev_var rfl) (as_nil fun H3 e3 => sl_bounds (X2.hs.ext e3)))) (fun H3 e3 => ev_setH TH (X2.hs.ext e3) (ev_var rfl) (ev_var rfl) (ex_l e3 hs3) (known_mem hk) hl8) fun q H3 hq e3 => rv_ixL (sq_of hq) (at_zs b2)) ea_nil) (by show 1 ≤ 100000; decide)) ?_
    rw [b1]
    refine retL_mono ?_ e02
    have := k.yes (by rw [hf]; exact not_neg fun z hz => by obtain rfl := List.mem_singleton.mp hz; omega)
    rw [hf] at this
    exact this
def fCover (s : Vbchaj.State) : List Int := (Vbchaj.step s .cover).2
abbrev s_cover : Stmt := top 49
abbrev N_cover : List Str := ["house"]
abbrev P_cover : List Str := ["house"]
theorem sc_cover : FnScope N_cover P_cover (defScope s_cover) := ⟨rfl, rfl, rfl, by decide +kernel, rfl, by decide +kernel, by decide +kernel⟩

theorem ok_cover (D : Dfn K mg "cover" s_cover P_cover) (c_tell_set : Cal P w K mg base 3 "tell_set" (spTellSet CH C)) (c_least_cover : Cal P w K mg base 6 "least_cover" (spCover CH C)) : Cal P w K mg base 7 "cover" (spA0 CH C fCover) := by
  refine cal_of D sc_cover (fun vs H Q E h => ?_) fun f cdv A outer s H vs Q E hr h => ?_
  · obtain ⟨a, b, c, d, e, rfl, _⟩ := h; rfl
  · refine ⟨_, (pss_one (ps_ret (pe_d c_tell_set hr (by exact (pa_cons (pv 0) (pa_cons (pe_d c_least_cover hr (by exact (pa_cons (pv 0) pa_nil))) pa_nil)))))), ?_⟩
    obtain ⟨h, rd, cl, s, L, rfl, X, k⟩ := h
    obtain ⟨w1, w2⟩ := Cm.cover_eq X.inv.wn X.inv.lt (owns_perm X)
    have hm : (Vbchaj.movedOf s.members s.clients).length = (movL s.members (ordL L)).length := by rw [← X.mov, List.length_map]
    rw [hm] at w1 w2
    refine s_retL (el_tellSet X.hs (ev_var rfl) (ev_cal (as_v (ev_var rfl) (as_nil fun H3 e3 H4 e4 Q q E => ⟨h, rd, cl, s.members, L, rfl, X.hs.ext (e3.trans e4), w2, q⟩)))) ?_
    rw [w1]
    have : fCover s = Vbchaj.ints ((Vbchaj.coverOf s.members s.clients).length :: Vbchaj.coverOf s.members s.clients) := rfl
    rw [this, zs_ints] at k
    exact k
end
end Cw
namespace Cw
open PySem PySem.Spec PyProof.Rows L2 Evl
open PySem.RefX (RefTxt)
open Cm (keysM setN isW hasB roomSl goesIn keptToo isFreeB withoutPlace movedBy allSl freeOf goalsOf GoalsOk keysOf leastOf isProof proofsOf boundsOf coversOf Inv Wn ckeys gl lessBy)
/-! ### a member's room put -/
def setRoom (ms : List Mem) (k v : Nat) : List Mem := ms.map fun x => if x.key = k then { x with room := v } else x
theorem keys_setRoom (ms : List Mem) (k v : Nat) : keysM (setRoom ms k v) = keysM ms := by
  unfold setRoom keysM
  rw [List.map_map]
  refine List.map_congr_left fun m _ => ?_
  show (if m.key = k then { m with room := v } else m : Mem).key = m.key
  split <;> rfl
theorem putK_old (l : List Mem) (k v : Nat) (h : k ∈ keysM l) : putK (rk l) (Sum.inl (k : Int)) (nV v) = rk (setRoom l k v) := by
  unfold putK
  rw [if_pos]
  · unfold rk setRoom
    rw [List.map_map, List.map_map]
    refine List.map_congr_left fun m _ => ?_
    show (if (Sum.inl (m.key : Int) : L2.Key) = Sum.inl (k : Int) then ((Sum.inl (m.key : Int) : L2.Key), nV v) else (Sum.inl (m.key : Int), nV m.room)) = (Sum.inl ((if m.key = k then { m with room := v } else m : Mem).key : Int), nV (if m.key = k then { m with room := v } else m : Mem).room)
    by_cases e : m.key = k
    · rw [if_pos (by rw [e]), if_pos e]
    · rw [if_neg (fun q => e (by have := Sum.inl.inj q; omega)), if_neg e]
  · obtain ⟨m, hm, e⟩ := List.mem_map.mp h
    exact List.any_eq_true.mpr ⟨_, List.mem_map.mpr ⟨m, hm, rfl⟩, decide_eq_true (by rw [← e])⟩
theorem putK_new (l : List Mem) (k v : Nat) (h : k ∉ keysM l) : putK (rk l) (Sum.inl (k : Int)) (nV v) = rk (l ++ [⟨k, v⟩]) := by
  unfold putK
  rw [if_neg]
  · unfold rk
    rw [List.map_append]; rfl
  · intro q
    obtain ⟨x, hx, e⟩ := List.any_eq_true.mp q
    obtain ⟨m, hm, rfl⟩ := List.mem_map.mp hx
    have := Sum.inl.inj (of_decide_eq_true e)
    exact h (List.mem_map.mpr ⟨m, hm, by omega⟩)
theorem rk_len (l : List Mem) : (rk l).length = l.length := List.length_map ..
section
variable {σ : L2.St} {H : Hp} {td ty tv : TE} {D : Ends} {tz : TS} {d : Addr} {ms : List Mem} {k v : Nat}
theorem s_roomPut (R : RoomsAt H d ms) (hv : Ev tv σ H (nV v)) (hd : Ev td σ H (.ref d)) (hk : Ev ty σ H (nV k)) (go : ∀ H1 l, Ex H H1 → l.Perm ms → H1 d = some (.dK (rk l)) → D.nx σ (upd H1 d (.dK (putK (rk l) (Sum.inl (k : Int)) (nV v))))) : sDPut td ty tv D σ H := by
  refine hv H (Ex.refl H) _ fun H1 e1 => hd H1 e1 _ fun H2 e2 => hk H2 (e1.trans e2) _ fun H3 e3 => ?_
  obtain ⟨l, p, hl⟩ := R.ex
  have hl := ((e1.trans e2).trans e3) _ _ hl
  refine ⟨d, _, rfl, Or.inl ⟨rk l, Sum.inl (k : Int), hl, rfl, ?_, rfl⟩, go H3 l ((e1.trans e2).trans e3) p hl⟩
  rw [rk_len, p.length_eq]
  have := R.few
  show _ < 16777216
  omega
theorem q_roomPut (R : RoomsAt H d ms) (hv : Ev tv σ H (nV v)) (hd : Ev td σ H (.ref d)) (hk : Ev ty σ H (nV k)) (go : ∀ H1 l, Ex H H1 → l.Perm ms → H1 d = some (.dK (rk l)) → tz D σ (upd H1 d (.dK (putK (rk l) (Sum.inl (k : Int)) (nV v))))) : tSeq (sDPut td ty tv) tz D σ H :=
  s_roomPut (D := { D with nx := tz D }) R hv hd hk go
theorem RoomsAt.set (R : RoomsAt H d ms) (h : k ∈ keysM ms) {H1 : Hp} {l : List Mem} (p : l.Perm ms) : RoomsAt (upd H1 d (.dK (putK (rk l) (Sum.inl (k : Int)) (nV v)))) d (setRoom ms k v) :=
  ⟨by rw [keys_setRoom]; exact R.lt, by unfold setRoom; rw [List.length_map]; exact R.few, setRoom l k v, p.map _, by rw [upd_same, putK_old l k v ((p.map _).mem_iff.mpr h)]⟩
end
section
variable {CH C R : Addr} {H : Hp} {h rd cl : Addr} {s : Vbchaj.State} {L : List AC}
theorem HouseAt.member (x : HouseAt CH C H h rd cl s L) {z : Int} {m : Mem} (hz : Vbchaj.keyed z = true) (hm : Vbchaj.memberAt s z.toNat = some m) : m ∈ s.members ∧ m.key = z.toNat ∧ (V.int z = nV m.key) ∧ ∀ y ∈ s.members, y.key = m.key → y = m := by
  obtain ⟨a, b⟩ := Cm.find_get (fun m : Mem => m.key) hm
  refine ⟨a, b, ?_, fun y hy e => Cm.key_injF (fun m : Mem => m.key) x.inv.wn.nk hy a e⟩
  show V.int z = V.int (m.key : Int)
  rw [b, keyed_pos hz]
theorem others_map {z : Int} (M : List AC) {y : AC} (hy : (y.2.key : Int) = z) : (M.filter fun x => !decide ((x.2.key : Int) = z)).map Prod.snd = (M.map Prod.snd).filter fun x => x.key != y.2.key := by
  rw [filt_map M fun c : Cli => !decide ((c.key : Int) = z)]
  refine List.filter_congr fun c _ => ?_
  rw [Bool.eq_iff_iff, Bool.not_eq_true', decide_eq_false_iff_not, bne_iff_ne]
  omega
end
section
variable {P : Program} {w : World} {K : PySem.W.Frag} {mg : Str → Option Value} {base : Heap} {C CH R fI : Addr}
/-- [client for client in in_order(house.clients) if client.key != key] -/
theorem el_others {σ : L2.St} {H : Hp} {te tk : TE} {j : Nat} {vs : List Nat} {h rd cl : Addr} {ms : List Mem} {L : List AC} {z : Int} (TH : ClsH K CH) (TC : ClsC K C) (X : HsAt CH C H h rd cl ms L) (he : Ev te σ H (.ref h)) (hw : ∀ x, wipe ((wipe σ vs).set j (some x)) vs = wipe σ vs) (hv : ∀ v, ((wipe σ vs).set j (some v))[j]? = some (some v))
    (hz : ∀ v H1, Ev tk ((wipe σ vs).set j (some v)) H1 (.int z)) :
    EvL (tLc (iList K (tCall (spOrder K C) [] E0 (tCons (tFld K te "clients") tNil))) (gName j) (tTest (tOp rNe (tFld K (tVar j) "key") tk)) (tVar j) vs) σ H (refs ((ordL L).filter fun x => !decide ((x.2.key : Int) = z))) :=
  el_lcNM (ordL L) (fun y => V.ref y.1) (fun y => V.ref y.1) (fun y => !decide ((y.2.key : Int) = z)) (el_order TH he X) (by rw [ordL_len]; have := X.ok.few; omega) hw
    (fun y hy H2 e2 => et_op (ev_key TC (ev_var (hv _)) ((X.ok.ord.ext e2).at_ y hy)) (hz _ _) (rv_neI _ _)) fun y hy H2 e2 _ => ev_var (hv _)
/-! ### without, roomier, first -/
def fWithout (s : Vbchaj.State) (z : Int) : List Int := (Vbchaj.step s (.without z)).2
abbrev s_without : Stmt := top 51
abbrev N_without : List Str := ["house", "key", "others", "client"]
abbrev P_without : List Str := ["house", "key"]
theorem sc_without : FnScope N_without P_without (defScope s_without) := ⟨rfl, rfl, rfl, by decide +kernel, rfl, by decide +kernel, by decide +kernel⟩

theorem ok_without (TH : ClsH K CH) (TC : ClsC K C) (D : Dfn K mg "without" s_without P_without) (x_look_key : CalX P w K mg base 4 "look_key" (spKey R)) (x_known_client : CalX P w K mg base 3 "known_client" (spKnown CH C R))
    (c_in_order : Cal P w K mg base 4 "in_order" (spOrder K C)) (c_counted : Cal P w K mg base 1 "counted" (spCounted K C)) (c_new_ones : Cal P w K mg base 6 "new_ones" (spNew K CH C)) (c_moved_among : Cal P w K mg base 3 "moved_among" (spMoved K C)) :
    CalX P w K mg base 7 "without" (spA1 CH C R fWithout) := by
  refine calX_of D sc_without (fun vs H Q E h => ?_) fun f cdv A outer s H vs Q E hr h => ?_
  · obtain ⟨a, b, c, d, e, g, rfl, _⟩ := h; rfl
  · refine ⟨_, (pss_cons (ps_expr (pe_x x_look_key hr (takes_of rfl rfl rfl rfl) (by exact (pa_cons (pv 1) pa_nil))))
  (pss_cons (ps_expr (pe_x x_known_client hr (takes_of rfl rfl rfl rfl) (by exact (pa_cons (pv 0) (pa_cons (pv 1) pa_nil)))))
  (pss_cons (ps_setLc (i := 2) (own := [("client", 3)]) (g := gName 3) rfl sc_without.nd rfl rfl (sw_true rfl rfl rfl (by decide +kernel)) (pi_list (pe_d c_in_order hr (by exact (pa_cons (pe_fld (pv 0) rfl) pa_nil)))) (blkOk_by (N := N_without) (sc := defScope s_without) (by decide +kernel)) (fun _ _ _ _ _ => by exact (pg_name (i := 3) sc_without.nd rfl (Or.inl rfl))) (fun _ _ _ _ _ => by exact (pts_one (pt_cmpR op_ne (pe_fldK (K := K) rfl (pv 3) rfl) (pv 1) (nomark _)))) (fun _ _ _ _ _ => by exact (pv 3)))
  (pss_one (ps_ret (pe_d c_counted hr (by exact (pa_cons (pe_d c_new_ones hr (by exact (pa_cons (pv 0) (pa_cons (pe_d c_moved_among hr (by exact (pa_cons (pe_fld (pv 0) rfl) (pa_cons (pv 2) pa_nil)))) pa_nil)))) pa_nil)))))))), ?_⟩
    obtain ⟨h, rd, cl, s, L, z, rfl, X, k⟩ := h
    refine q_key (ev_var rfl) (fun hb => k.no _ (congrArg Prod.snd (onC1 hb)) (by decide)) fun hz H0 e0 => ?_
    refine q_knownD (X.ext e0) (ev_var rfl) (ev_var rfl) hz (fun hb => (k.no _ (congrArg Prod.snd (onC4 hz hb)) (by decide)).go e0) fun y hy hyz hyk hc H1 e1 => ?_
    have X1 := X.ext (e0.trans e1)
    refine q_asgL (el_others TH TC X1.hs (ev_var rfl) (fun _ => rfl) (fun _ => rfl) fun _ _ => ev_var rfl) fun p H2 hp e2 h2 => ?_
    have e02 := (e0.trans e1).trans e2
    have X2 := X.ext e02
    have hsub : ∀ x ∈ (ordL L).filter fun x => !decide ((x.2.key : Int) = z), x ∈ ordL L := fun x hx => (List.mem_filter.mp hx).1
    have okO := X2.hs.ok.ord.sub hsub (Nat.le_trans (List.length_filter_le _ _) X2.hs.ok.ord.few)
    have okM := okO.mov s.members
    have wO : Wn s.members (s.clients.filter fun x => x.key != y.2.key) := X.inv.wn.sub List.filter_sublist
    have hmap := movL_map wO (by rw [others_map _ hyz, X.ord])
    have hkeys := newL_keys X (movL s.members ((ordL L).filter fun x => !decide ((x.2.key : Int) = z)))
    rw [hmap] at hkeys
    have hsubN : ∀ x ∈ newL s.members L (movL s.members ((ordL L).filter fun x => !decide ((x.2.key : Int) = z))), x ∈ movL s.members ((ordL L).filter fun x => !decide ((x.2.key : Int) = z)) := fun x hx => (List.mem_filter.mp hx).1
    have okN := okM.sub hsubN (Nat.le_trans (List.length_filter_le _ _) okM.few)
    refine s_retL (el_cal (as_L (el_cal (as_v (ev_var rfl) (as_L (el_cal (as_v (ev_rooms TH (ev_var rfl) X2.hs) (as_v (ev_var rfl) (as_nil fun H3 e3 => sl_moved (X2.hs.ext e3).rooms (sq_of (e3 _ _ h2)) (okO.ext e3))))) fun q H3 e3 h3 => as_nil fun H4 e4 H5 e5 Q q' E =>
      ⟨h, rd, cl, q, s.members, L, _, rfl, X2.hs.ext (e3.trans (e4.trans e5)), sq_of ((e4.trans e5) _ _ h3), okM.few, fun x hx => (okM.at_ x hx).ext (e3.trans (e4.trans e5)), q'⟩))) fun q H3 e3 h3 => as_nil fun H4 e4 => sl_counted (sq_of (e4 _ _ h3)) okN.few fun x hx => (okN.at_ x hx).ext (e3.trans e4))) ?_
    refine retL_mono (k.nats ?_) e02
    rw [counted_keys hkeys]
    exact congrArg Prod.snd (onC0 hz hc)
def fRoomier (s : Vbchaj.State) (z : Int) : List Int := (Vbchaj.step s (.roomier z)).2
abbrev s_roomier : Stmt := top 52
abbrev N_roomier : List Str := ["house", "key", "rooms"]
abbrev P_roomier : List Str := ["house", "key"]
theorem sc_roomier : FnScope N_roomier P_roomier (defScope s_roomier) := ⟨rfl, rfl, rfl, by decide +kernel, rfl, by decide +kernel, by decide +kernel⟩

theorem ok_roomier (TH : ClsH K CH) (TC : ClsC K C) (B : Blt mg) (D : Dfn K mg "roomier" s_roomier P_roomier) (x_look_key : CalX P w K mg base 4 "look_key" (spKey R)) (x_look_members : CalX P w K mg base 3 "look_members" (spLookM K CH C R))
    (c_in_order : Cal P w K mg base 4 "in_order" (spOrder K C)) (c_counted : Cal P w K mg base 1 "counted" (spCounted K C)) (c_new_ones : Cal P w K mg base 6 "new_ones" (spNew K CH C)) (c_moved_among : Cal P w K mg base 3 "moved_among" (spMoved K C)) :
    CalX P w K mg base 7 "roomier" (spA1 CH C R fRoomier) := by
  refine calX_of D sc_roomier (fun vs H Q E h => ?_) fun f cdv A outer s H vs Q E hr h => ?_
  · obtain ⟨a, b, c, d, e, g, rfl, _⟩ := h; rfl
  · refine ⟨_, (pss_cons (ps_expr (pe_x x_look_key hr (takes_of rfl rfl rfl rfl) (by exact (pa_cons (pv 1) pa_nil))))
  (pss_cons (ps_expr (pe_x x_look_members hr (takes_of rfl rfl rfl rfl) (by exact (pa_cons (pv 0) (pa_cons (pe_lst (by exact (pa_cons (pv 1) pa_nil))) pa_nil)))))
  (pss_cons (ps_set (i := 2) sc_roomier.nd rfl (Or.inl rfl) (pe_callTy call_dictD (by rfl) B.dict (by decide +kernel) (by exact (pa_cons (pe_fld (pv 0) rfl) pa_nil))))
  (pss_cons (ps_dput (hu_of hr) (pv 2) (pv 1) (pe_op op_add (pe_dget (hu_of hr) (pv 2) (pv 1) (fun _ _ => rfl)) pe_int) rfl)
  (pss_one (ps_ret (pe_d c_counted hr (by exact (pa_cons (pe_d c_new_ones hr (by exact (pa_cons (pv 0) (pa_cons (pe_d c_moved_among hr (by exact (pa_cons (pv 2) (pa_cons (pe_d c_in_order hr (by exact (pa_cons (pe_fld (pv 0) rfl) pa_nil))) pa_nil)))) pa_nil)))) pa_nil))))))))), ?_⟩
    obtain ⟨h, rd, cl, s, L, z, rfl, X, k⟩ := h
    refine q_key (ev_var rfl) (fun hb => k.no _ (congrArg Prod.snd (onM1 hb)) (by decide)) fun hz H0 e0 => ?_
    refine q_member (X.ext e0) (ev_var rfl) (ev_var rfl) hz (fun hb => (k.no _ (congrArg Prod.snd (onM4 hz hb)) (by decide)).go e0) fun m hm H1 e1 => ?_
    have X1 := X.ext (e0.trans e1)
    obtain ⟨m1, m2, m3, m4⟩ := X.member hz hm
    rw [m3]
    have ed : ∃ l, l.Perm s.members ∧ H1 rd = some (.dK (rk l)) := X1.hs.rooms.ex
    obtain ⟨l0, p0, hl0⟩ := ed
    refine ev_rooms TH (ev_var rfl) X1.hs H1 (Ex.refl H1) _ fun H1' e1' => ⟨rd, rk l0, rfl, Rd.of (e1' _ _ hl0), fun d hd => ?_⟩
    have hd1 : H1 d = none := fresh_back e1' hd
    have eA : Ex H1 (upd H1' d (.dK (rk l0))) := e1'.trans (Ex.new hd)
    have XA := X1.ext eA
    have RA : RoomsAt (upd H1' d (.dK (rk l0))) d s.members := ⟨X1.hs.rooms.lt, X1.hs.rooms.few, l0, p0, upd_same⟩
    refine q_roomPut (v := m.room + 1) RA (ev_to (ev_op (ev_room RA m1 (ev_var rfl) (ev_var rfl)) ev_c rv_I0) rfl) (ev_var rfl) (ev_var rfl) fun H2 l e2 p hl => ?_
    have e3 : Ex H1 (upd H2 d (.dK (putK (rk l) (Sum.inl (m.key : Int)) (nV (m.room + 1))))) := Ex.mut (eA.trans e2) hd1
    have RB := RA.set (k := m.key) (v := m.room + 1) (H1 := H2) (List.mem_map.mpr ⟨m, m1, rfl⟩) p
    generalize upd H2 d (.dK (putK (rk l) (Sum.inl (m.key : Int)) (nV (m.room + 1)))) = H3 at e3 RB ⊢
    have e03 := (e0.trans e1).trans e3
    have X3 := X.ext e03
    have hms : (s.members.map fun x => if x.key = m.key then { x with room := x.room + 1 } else x) = setRoom s.members m.key (m.room + 1) := by
      unfold setRoom
      refine List.map_congr_left fun x hx => ?_
      by_cases e : x.key = m.key
      · rw [if_pos e, if_pos e, m4 x hx e]
      · rw [if_neg e, if_neg e]
    have wS : Wn (setRoom s.members m.key (m.room + 1)) s.clients := by
      have w := X.inv.wn
      refine ⟨⟨?_, w.ck, ?_, ?_⟩, w.tn⟩
      · show (keysM _).Nodup
        rw [keys_setRoom]; exact w.nk
      · intro x hx
        obtain ⟨y, hy, rfl⟩ := List.mem_map.mp hx
        show (if y.key = m.key then { y with room := m.room + 1 } else y : Mem).key ≠ 0
        split
        · exact w.pos y hy
        · exact w.pos y hy
      · show ∀ c ∈ s.clients, ∀ t ∈ c.takers, t ∈ keysM _
        rw [keys_setRoom]; exact w.tk
    have okO : LOk C H3 (keysM (setRoom s.members m.key (m.room + 1))) (ordL L) := by rw [keys_setRoom]; exact X3.hs.ok.ord
    have okM := okO.mov (setRoom s.members m.key (m.room + 1))
    have hkeys := newL_keys X (movL (setRoom s.members m.key (m.room + 1)) (ordL L))
    rw [movL_map wS X.ord] at hkeys
    have hsubN : ∀ x ∈ newL s.members L (movL (setRoom s.members m.key (m.room + 1)) (ordL L)), x ∈ movL (setRoom s.members m.key (m.room + 1)) (ordL L) := fun x hx => (List.mem_filter.mp hx).1
    have okN := okM.sub hsubN (Nat.le_trans (List.length_filter_le _ _) okM.few)
    refine s_retL (el_cal (as_L (el_cal (as_v (ev_var rfl) (as_L (el_cal (as_v (ev_var rfl) (as_L (el_order TH (ev_var rfl) X3.hs) fun o H3 e3 ho => as_nil fun H4 e4 => sl_moved (RB.ext (e3.trans e4)) (sq_of (e4 _ _ ho)) (okO.ext (e3.trans e4))))) fun q H3 e3 h3 => as_nil fun H4 e4 H5 e5 Q q' E =>
      ⟨h, rd, cl, q, s.members, L, _, rfl, X3.hs.ext (e3.trans (e4.trans e5)), sq_of ((e4.trans e5) _ _ h3), okM.few, fun x hx => (okM.at_ x hx).ext (e3.trans (e4.trans e5)), q'⟩))) fun q H3 e3 h3 => as_nil fun H4 e4 => sl_counted (sq_of (e4 _ _ h3)) okN.few fun x hx => (okN.at_ x hx).ext (e3.trans e4))) ?_
    refine retL_mono (k.nats ?_) e03
    rw [counted_keys hkeys, ← hms]
    exact congrArg Prod.snd (onM0 hz hm)
def fFirst (s : Vbchaj.State) (z : Int) : List Int := (Vbchaj.step s (.first z)).2
abbrev s_first : Stmt := top 53
abbrev N_first : List Str := ["house", "key", "client", "others", "keys", "other"]
abbrev P_first : List Str := ["house", "key"]
theorem sc_first : FnScope N_first P_first (defScope s_first) := ⟨rfl, rfl, rfl, by decide +kernel, rfl, by decide +kernel, by decide +kernel⟩

theorem ok_first (TH : ClsH K CH) (TC : ClsC K C) (D : Dfn K mg "first" s_first P_first) (x_look_key : CalX P w K mg base 4 "look_key" (spKey R)) (x_known_client : CalX P w K mg base 3 "known_client" (spKnown CH C R))
    (c_in_order : Cal P w K mg base 4 "in_order" (spOrder K C)) (c_counted : Cal P w K mg base 1 "counted" (spCounted K C)) (c_moved_among : Cal P w K mg base 3 "moved_among" (spMoved K C)) (c_moved_clients : Cal P w K mg base 5 "moved_clients" (spMovedC CH C)) :
    CalX P w K mg base 6 "first" (spA1 CH C R fFirst) := by
  refine calX_of D sc_first (fun vs H Q E h => ?_) fun f cdv A outer s H vs Q E hr h => ?_
  · obtain ⟨a, b, c, d, e, g, rfl, _⟩ := h; rfl
  · refine ⟨_, (pss_cons (ps_expr (pe_x x_look_key hr (takes_of rfl rfl rfl rfl) (by exact (pa_cons (pv 1) pa_nil))))
  (pss_cons (ps_set (i := 2) sc_first.nd rfl (Or.inl rfl) (pe_x x_known_client hr (takes_of rfl rfl rfl rfl) (by exact (pa_cons (pv 0) (pa_cons (pv 1) pa_nil)))))
  (pss_cons (ps_setLc (i := 3) (own := [("other", 5)]) (g := gName 5) rfl sc_first.nd rfl rfl (sw_true rfl rfl rfl (by decide +kernel)) (pi_list (pe_d c_in_order hr (by exact (pa_cons (pe_fld (pv 0) rfl) pa_nil)))) (blkOk_by (N := N_first) (sc := defScope s_first) (by decide +kernel)) (fun _ _ _ _ _ => by exact (pg_name (i := 5) sc_first.nd rfl (Or.inl rfl))) (fun _ _ _ _ _ => by exact (pts_one (pt_cmpR op_ne (pe_fldK (K := K) rfl (pv 5) rfl) (pv 1) (nomark _)))) (fun _ _ _ _ _ => by exact (pv 5)))
  (pss_cons (ps_set (i := 4) sc_first.nd rfl (Or.inr rfl) (pe_lc (own := [("other", 5)]) (g := gName 5) rfl sc_first.nd (pi_list (pe_d c_moved_among hr (by exact (pa_cons (pe_fld (pv 0) rfl) (pa_cons (pe_op op_cat (pe_lst (by exact (pa_cons (pv 2) pa_nil))) (pv 3)) pa_nil))))) (blkOk_by (N := N_first) (sc := defScope s_first) (by decide +kernel)) (fun _ _ _ _ _ => by exact (pg_name (i := 5) sc_first.nd rfl (Or.inl rfl))) (fun _ _ _ _ _ => by exact pts_nil) (fun _ _ _ _ _ => by exact (pe_fldK (K := K) rfl (pv 5) rfl))))
  (pss_one (ps_ret (pe_d c_counted hr (by exact (pa_cons (pe_lc (own := [("other", 5)]) (g := gName 5) rfl sc_first.nd (pi_list (pe_d c_moved_clients hr (by exact (pa_cons (pv 0) pa_nil)))) (blkOk_by (N := N_first) (sc := defScope s_first) (by decide +kernel)) (fun _ _ _ _ _ => by exact (pg_name (i := 5) sc_first.nd rfl (Or.inl rfl))) (fun _ _ _ _ _ => by exact (pts_one (pt_cmpR (op_ninK (K := K) rfl) (pe_fldK (K := K) rfl (pv 5) rfl) (pv 4) (by rfl)))) (fun _ _ _ _ _ => by exact (pv 5))) pa_nil))))))))), ?_⟩
    obtain ⟨h, rd, cl, s, L, z, rfl, X, k⟩ := h
    refine q_key (ev_var rfl) (fun hb => k.no _ (congrArg Prod.snd (onC1 hb)) (by decide)) fun hz H0 e0 => ?_
    refine q_known (X.ext e0) (ev_var rfl) (ev_var rfl) hz (fun hb => (k.no _ (congrArg Prod.snd (onC4 hz hb)) (by decide)).go e0) fun y hy hyz hyk hc H1 e1 => ?_
    have X1 := X.ext (e0.trans e1)
    refine q_asgL (el_others TH TC X1.hs (ev_var rfl) (fun _ => rfl) (fun _ => rfl) fun _ _ => ev_var rfl) fun p H2 hp e2 h2 => ?_
    have e02 := (e0.trans e1).trans e2
    have X2 := X.ext e02
    have hsub : ∀ x ∈ y :: (ordL L).filter fun x => !decide ((x.2.key : Int) = z), x ∈ ordL L := fun x hx => by
      rcases List.mem_cons.mp hx with rfl | hx
      · exact (ordL_perm L).mem_iff.mpr hy
      · exact (List.mem_filter.mp hx).1
    have hl1 : (y :: (ordL L).filter fun x => !decide ((x.2.key : Int) = z)).length ≤ 100 := by
      have h1 := List.length_filter_le (fun x : AC => !decide ((x.2.key : Int) = z)) (ordL L)
      rw [ordL_len, X.lenL] at h1
      have := X.inv.cf
      rw [List.length_cons]; omega
    have okO := X2.hs.ok.ord.sub hsub hl1
    have okM := okO.mov s.members
    have wO : Wn s.members (y.2 :: s.clients.filter fun x => x.key != y.2.key) := X.inv.wn.perm (Cm.split_perm X.inv.ck (X.memc hy)).symm
    have hmap := movL_map (M := y :: (ordL L).filter fun x => !decide ((x.2.key : Int) = z)) wO (by rw [List.map_cons, others_map _ hyz, X.ord])
    have hcat : EvL (tOp rCat (tLst (tCons (tVar 2) tNil)) (tVar 3)) [some (.ref h), some (.int z), some (.ref y.1), some (.ref p), none, none] H2 (refs (y :: (ordL L).filter fun x => !decide ((x.2.key : Int) = z))) := by
      refine el_to (el_catV (el_lst (ea_cons (ev_var rfl) ea_nil) (by show 1 ≤ 100000; decide)) (ev_var rfl) h2 ?_) rfl
      rw [refs_len]
      rw [List.length_cons] at hl1
      show 1 + _ ≤ 100000
      omega
    refine q_asgL (el_keysN TC okM.few (fun x hx => okM.at_ x hx) (el_cal (as_v (ev_rooms TH (ev_var rfl) X2.hs) (as_L hcat fun q H3 e3 h3 => as_nil fun H4 e4 => sl_moved (X2.hs.ext (e3.trans e4)).rooms (sq_of (e4 _ _ h3)) (okO.ext (e3.trans e4))))) (fun _ => rfl) (fun _ => rfl)) fun q H3 hq e3 h3 => ?_
    have X3 := X2.ext e3
    have okV := X3.hs.ok.ord.mov s.members
    have hN : ((movL s.members (ordL L)).filter fun x => !decide (x.2.key ∈ keysA (movL s.members (y :: (ordL L).filter fun x => !decide ((x.2.key : Int) = z))))).length ≤ 100 := Nat.le_trans (List.length_filter_le _ _) okV.few
    refine s_retL (el_cal (as_L (el_lcNM (movL s.members (ordL L)) (fun y => V.ref y.1) (fun y => V.ref y.1) (fun x => !decide (x.2.key ∈ keysA (movL s.members (y :: (ordL L).filter fun x => !decide ((x.2.key : Int) = z))))) (el_movedC (ev_var rfl) X3.hs) (by have := okV.few; omega) (fun _ => rfl)
      (fun x hx H4 e4 => et_test (ev_ninN (ev_key TC (ev_var rfl) ((okV.at_ x hx).ext e4)) (ev_var rfl) (sq_of (e4 _ _ h3)))) fun x hx H4 e4 _ => ev_var rfl) fun r H4 e4 h4 => as_nil fun H5 e5 => sl_counted (sq_of (e5 _ _ h4)) hN fun x hx => (okV.at_ x (List.mem_filter.mp hx).1).ext (e4.trans e5))) ?_
    refine retL_mono (k.nats ?_) (e02.trans e3)
    have hkeys : keysA ((movL s.members (ordL L)).filter fun x => !decide (x.2.key ∈ keysA (movL s.members (y :: (ordL L).filter fun x => !decide ((x.2.key : Int) = z))))) = Vbchaj.newIn (Vbchaj.movedOf s.members s.clients) (Vbchaj.movedOf s.members (y.2 :: s.clients.filter fun x => x.key != y.2.key)) := by
      rw [Cm.new_in, ← hmap, ← keysA_map, ← X.mov, ← filt_map, ← keysA_map]
    rw [counted_keys hkeys]
    exact congrArg Prod.snd (onC0 hz hc)
end
end Cw
namespace Cw
open PySem PySem.Spec PyProof.Rows L2 Evl
open PySem.RefX (RefTxt)
open Cm (keysM setN isW hasB roomSl goesIn keptToo isFreeB withoutPlace movedBy allSl freeOf goalsOf GoalsOk keysOf leastOf isProof proofsOf boundsOf coversOf Inv Wn ckeys gl lessBy)
/-! ### plans, in plain Lean -/
theorem evens_map {α β : Type} (f : α → β) : ∀ l : List α, evens (l.map f) = (evens l).map f
  | a :: b :: l => congrArg (f a :: ·) (evens_map f l)
  | [a] => rfl
  | [] => rfl
theorem odds_map {α β : Type} (f : α → β) : ∀ l : List α, odds (l.map f) = (odds l).map f
  | a :: b :: l => congrArg (f b :: ·) (odds_map f l)
  | [a] => rfl
  | [] => rfl
theorem evens_len {α : Type} : ∀ l : List α, (evens l).length = (l.length + 1) / 2
  | a :: b :: l => by
    show (evens l).length + 1 = (l.length + 1 + 1 + 1) / 2
    rw [evens_len l]; omega
  | [a] => by simp [evens]
  | [] => by simp [evens]
theorem odds_len {α : Type} : ∀ l : List α, (odds l).length = l.length / 2
  | a :: b :: l => by
    show (odds l).length + 1 = (l.length + 1 + 1) / 2
    rw [odds_len l]; omega
  | [a] => by simp [odds]
  | [] => by simp [odds]
theorem pairs_eq : ∀ l : List Int, (Vbchaj.pairsOf l).map (fun x => (x.1.toNat, x.2.toNat)) = (evens (Vbchaj.nats l)).zip (odds (Vbchaj.nats l))
  | a :: b :: l => congrArg ((a.toNat, b.toNat) :: ·) (pairs_eq l)
  | [a] => rfl
  | [] => rfl
def planB (ms : List Mem) (mv : List Cli) (E O : List Nat) : Bool := decide (ckeys mv = E) && ((mv.zip O).all (fun x => decide (x.2 ∈ x.1.takers)) && O.all fun g => decide (O.count g ≤ Vbchaj.roomOf ms g))
theorem plan_eq {s : Vbchaj.State} (h : Inv s) {E O : List Nat} (hl : E.length = O.length) : Vbchaj.rightPlan s (E.zip O) = planB s.members (Vbchaj.movedOf s.members s.clients) E O := by
  unfold Vbchaj.rightPlan planB
  have e1 : (E.zip O).map (fun x => x.1) = E := List.map_fst_zip (by omega)
  have e2 : (E.zip O).map (fun x => x.2) = O := List.map_snd_zip (by omega)
  rw [e1]
  show ((E == ckeys (Vbchaj.movedOf s.members s.clients)) && _) = _
  by_cases hk : ckeys (Vbchaj.movedOf s.members s.clients) = E
  · rw [decide_eq_true hk, beq_iff_eq.mpr hk.symm, Bool.true_and, Bool.true_and]
    have hz : ((Vbchaj.movedOf s.members s.clients).zip (E.zip O)).all (fun x => x.1.takers.contains x.2.2) = ((Vbchaj.movedOf s.members s.clients).zip O).all fun x => decide (x.2 ∈ x.1.takers) := by
      conv => rhs; rw [← e2]
      rw [List.zip_map_right, List.all_map]
      congr 1
      funext x
      show x.1.takers.contains x.2.2 = decide (x.2.2 ∈ x.1.takers)
      rw [List.contains_eq_mem]
    rw [hz]
    by_cases ha : ((Vbchaj.movedOf s.members s.clients).zip O).all (fun x => decide (x.2 ∈ x.1.takers)) = true
    · rw [ha, Bool.true_and, Bool.true_and, Bool.eq_iff_iff, List.all_eq_true, List.all_eq_true]
      have hlen : (Vbchaj.movedOf s.members s.clients).length = O.length := by
        have := congrArg List.length hk
        rw [List.length_map] at this
        omega
      have hO : ∀ g ∈ O, g ∈ keysM s.members := fun g hg => by
        obtain ⟨i, hi, rfl⟩ := List.mem_iff_getElem.mp hg
        have hm : ((Vbchaj.movedOf s.members s.clients)[i]'(by omega), O[i]) ∈ (Vbchaj.movedOf s.members s.clients).zip O := by
          rw [List.mem_iff_getElem]
          exact ⟨i, by rw [List.length_zip]; omega, List.getElem_zip⟩
        exact h.tk _ (Cm.moved_sub.subset (List.getElem_mem _)) _ (of_decide_eq_true (List.all_eq_true.mp ha _ hm))
      constructor
      · intro z g hg
        obtain ⟨m, hm, e⟩ := List.mem_map.mp (hO g hg)
        have := of_decide_eq_true (z m hm)
        rw [Cm.taken_count, e2, e] at this
        rw [← e, Cm.roomOf_mem h.wn.nk hm, e]
        exact decide_eq_true this
      · intro z m hm
        rw [Cm.taken_count, e2]
        by_cases hg : m.key ∈ O
        · have := of_decide_eq_true (z _ hg)
          rw [Cm.roomOf_mem h.wn.nk hm] at this
          exact decide_eq_true this
        · exact decide_eq_true (by rw [List.count_eq_zero_of_not_mem hg]; omega)
    · rw [Bool.eq_false_iff.mpr ha, Bool.false_and, Bool.false_and]
  · rw [decide_eq_false hk, Bool.false_and, show (E == ckeys (Vbchaj.movedOf s.members s.clients)) = false from beq_eq_false_iff_ne.mpr fun q => hk q.symm, Bool.false_and]
/-! ### lists of numbers compared -/
theorem eqv_nats : ∀ (l m : List Nat), PyData.eqvAll (l.map fun (n : Nat) => PyData.int (n : Int)) (m.map fun (n : Nat) => PyData.int (n : Int)) = decide (l = m)
  | [], [] => rfl
  | [], _ :: _ => rfl
  | _ :: _, [] => rfl
  | a :: l, b :: m => by
    show (((a : Int) == (b : Int)) && PyData.eqvAll (l.map _) (m.map _)) = _
    rw [eqv_nats l m, Bool.eq_iff_iff, Bool.and_eq_true, beq_iff_eq, decide_eq_true_iff, decide_eq_true_iff, List.cons.injEq]
    exact and_congr_left fun _ => Int.ofNat_inj
theorem lay_nats : ∀ (l : List Nat), PyData.canLayAll0 (l.map fun (n : Nat) => PyData.int (n : Int)) = true ∧ PyData.depthAll (l.map fun (n : Nat) => PyData.int (n : Int)) = 0
  | [] => ⟨rfl, rfl⟩
  | a :: l => by
    obtain ⟨h1, h2⟩ := lay_nats l
    exact ⟨h1, by show max 0 (PyData.depthAll _) = 0; rw [h2]; rfl⟩
theorem dp_nats {K : PySem.W.Frag} {H : Hp} : ∀ (l : List Nat), DpAll K H (nats l) (l.map fun (n : Nat) => PyData.int (n : Int))
  | [] => .nil
  | a :: l => .cons (.int _) (dp_nats l)
theorem shaped_nats (l : List Nat) : SeqAt.shaped (.list (l.map fun (n : Nat) => PyData.int (n : Int))) = true := by
  obtain ⟨h1, h2⟩ := lay_nats l
  refine Bool.and_eq_true_iff.mpr ⟨h1, decide_eq_true ?_⟩
  show PyData.depthAll _ + 1 ≤ 64
  rw [h2]; decide
theorem rv_neNats {K : PySem.W.Frag} {H : Hp} {p q : Addr} {l m : List Nat} (hp : SqL K H p (nats l)) (hq : SqL K H q (nats m)) : RV (rNeD K) (.ref p) (.ref q) H (.bl (!decide (l = m))) := fun H1 e Q k => by
  refine ⟨_, _, .lst (ex_l e hp) (dp_nats l), .lst (ex_l e hq) (dp_nats m), shaped_nats l, shaped_nats m, ?_⟩
  show Q (.bl (!PyData.eqvAll _ _)) H1
  rw [eqv_nats]
  exact k H1 (Ex.refl H1)
section
variable {K : PySem.W.Frag} {σ : L2.St} {H : Hp} {ta tb tc te : TE}
theorem el_step {g : List V → List V} {a : Addr} {xs : List V} (h : Ev te σ H (.ref a)) (hs : SqL K H a xs) (hz : (g xs).length ≤ 100000) : EvL (tStep K g te) σ H (g xs) := fun H1 e Q q =>
  h H1 e _ fun H2 e2 => ⟨a, xs, rfl, ex_l (e.trans e2) hs, sz_of hz, fun p hp => q p _ (fresh_back e2 hp) (e2.trans (Ex.new hp)) upd_same⟩
theorem ev_chainI {a b c : Int} (h1 : Ev ta σ H (.int a)) (h2 : Ev tb σ H (.int b)) (h3 : Ev tc σ H (.int c)) : Ev (tChain (rI0 fun i j => .bl (decide (i ≤ j))) (rI0 fun i j => .bl (decide (i ≤ j))) ta tb tc) σ H (.bl (decide (a ≤ b) && decide (b ≤ c))) := fun H1 e Q q =>
  h1 H1 e _ fun H2 e2 => h2 H2 (e.trans e2) _ fun H3 e3 => ⟨_, _, rfl, rfl, _, rfl, by
    by_cases hab : a ≤ b
    · rw [if_pos (decide_eq_true hab)]
      refine h3 H3 ((e.trans e2).trans e3) _ fun H4 e4 => ⟨_, _, rfl, rfl, ?_⟩
      have := q H4 ((e2.trans e3).trans e4)
      rw [decide_eq_true hab, Bool.true_and] at this
      exact this
    · rw [if_neg (fun z => hab (of_decide_eq_true z))]
      have := q H3 (e2.trans e3)
      rw [decide_eq_false hab, Bool.false_and] at this
      exact this⟩
theorem ev_count {p : Addr} {l : List Nat} {k : Nat} (h : Ev ta σ H (.ref p)) (hs : SqL K H p (nats l)) (hk : Ev tb σ H (nV k)) : Ev (tBM K "list" (rCntI K) ta (tCons tb tNil)) σ H (nV (l.count k)) :=
  ev_bm h (fun H1 e => Or.inl ⟨rfl, _, ex_l e hs⟩) (as_v hk (as_nil fun H1 e Q q => ⟨p, l.map fun (n : Nat) => (n : Int), (k : Int), rfl, rfl, by rw [← nats_zs]; exact ex_l e hs, by
    have : (l.map fun (n : Nat) => (n : Int)).count (k : Int) = l.count k := by
      unfold List.count
      rw [List.countP_map]
      congr 1
      funext x
      show ((x : Int) == (k : Int)) = (x == k)
      rw [Bool.eq_iff_iff, beq_iff_eq, beq_iff_eq]
      omega
    rw [this]
    exact q H1 (Ex.refl H1)⟩))
end
section
variable {P : Program} {w : World} {K : PySem.W.Frag} {mg : Str → Option Value} {base : Heap} {C CH R fI : Addr}
/-! ### may -/
def fMay (s : Vbchaj.State) (z y : Int) : List Int := (Vbchaj.step s (.may z y)).2
theorem may1 {s : Vbchaj.State} {z y : Int} (h : (Vbchaj.keyed z && Vbchaj.keyed y) = false) : fMay s z y = [-1] := by
  show (if (Vbchaj.keyed z && Vbchaj.keyed y) = false then (s, [-1]) else _ : Vbchaj.State × List Int).2 = _
  rw [if_pos h]
theorem may0 {s : Vbchaj.State} {z y : Int} (h : Vbchaj.keyed z = true) (h2 : Vbchaj.keyed y = true) : fMay s z y = (Vbchaj.onClient s z fun c => if (Vbchaj.memberAt s y.toNat).isNone = true then (s, [-4]) else (s, [if Vbchaj.mayBe s c y.toNat = true then 1 else 0])).2 := by
  show (if (Vbchaj.keyed z && Vbchaj.keyed y) = false then (s, [-1]) else _ : Vbchaj.State × List Int).2 = _
  rw [if_neg (by rw [h, h2]; decide)]
abbrev s_may : Stmt := top 54
abbrev N_may : List Str := ["house", "key", "member", "client"]
abbrev P_may : List Str := ["house", "key", "member"]
theorem sc_may : FnScope N_may P_may (defScope s_may) := ⟨rfl, rfl, rfl, by decide +kernel, rfl, by decide +kernel, by decide +kernel⟩

theorem ok_may (TH : ClsH K CH) (TC : ClsC K C) (B : Blt mg) (D : Dfn K mg "may" s_may P_may) (x_look_key : CalX P w K mg base 4 "look_key" (spKey R)) (x_known_client : CalX P w K mg base 3 "known_client" (spKnown CH C R)) (x_look_members : CalX P w K mg base 3 "look_members" (spLookM K CH C R))
    (c_is_moved : Cal P w K mg base 6 "is_moved" (spIsMoved CH C)) (c_moved_clients : Cal P w K mg base 5 "moved_clients" (spMovedC CH C)) (c_may_go : Cal P w K mg base 4 "may_go" (spMayGo K C)) :
    CalX P w K mg base 7 "may" (spA2 CH C R fMay) := by
  refine calX_of D sc_may (fun vs H Q E h => ?_) fun f cdv A outer s H vs Q E hr h => ?_
  · obtain ⟨a, b, c, d, e, g, i, rfl, _⟩ := h; rfl
  · refine ⟨_, (pss_cons (ps_expr (pe_x x_look_key hr (takes_of rfl rfl rfl rfl) (by exact (pa_cons (pv 1) pa_nil))))
  (pss_cons (ps_expr (pe_x x_look_key hr (takes_of rfl rfl rfl rfl) (by exact (pa_cons (pv 2) pa_nil))))
  (pss_cons (ps_set (i := 3) sc_may.nd rfl (Or.inl rfl) (pe_x x_known_client hr (takes_of rfl rfl rfl rfl) (by exact (pa_cons (pv 0) (pa_cons (pv 1) pa_nil)))))
  (pss_cons (ps_expr (pe_x x_look_members hr (takes_of rfl rfl rfl rfl) (by exact (pa_cons (pv 0) (pa_cons (pe_lst (by exact (pa_cons (pv 2) pa_nil))) pa_nil)))))
  (pss_cons (ps_if (pt_not (pt_val (pe_d c_is_moved hr (by exact (pa_cons (pv 0) (pa_cons (pv 1) pa_nil)))))) (pss_one (ps_ret (pe_lst (by exact (pa_cons pe_int pa_nil))))) pss_nil)
  (pss_one (ps_ret (pe_lst (by exact (pa_cons (pe_callTy call_int1 (by rfl) B.int (by decide +kernel) (by exact (pa_cons (pe_d c_may_go hr (by exact (pa_cons (pe_fld (pv 0) rfl) (pa_cons (pe_d c_moved_clients hr (by exact (pa_cons (pv 0) pa_nil))) (pa_cons (pv 3) (pa_cons (pv 2) pa_nil)))))) pa_nil))) pa_nil)))))))))), ?_⟩
    obtain ⟨h, rd, cl, s, L, z, y, rfl, X, k⟩ := h
    refine q_key (ev_var rfl) (fun hb => k.no _ (may1 (by rw [hb]; rfl)) (by decide)) fun hz H0 e0 => ?_
    refine q_key (ev_var rfl) (fun hb => (k.no _ (may1 (by rw [hb, Bool.and_false])) (by decide)).go e0) fun hy H1 e1 => ?_
    have hf := may0 (s := s) hz hy
    have e01 := e0.trans e1
    refine q_known (X.ext e01) (ev_var rfl) (ev_var rfl) hz (fun hb => (k.no _ (hf.trans (congrArg Prod.snd (onC4 hz hb))) (by decide)).go e01) fun x hx hxz hxk hc H2 e2 => ?_
    have e02 := e01.trans e2
    have hf := hf.trans (congrArg Prod.snd (onC0 hz hc))
    refine q_member (X.ext e02) (ev_var rfl) (ev_var rfl) hy (fun hb => (k.no _ (hf.trans (by rw [if_pos (by rw [hb]; rfl)])) (by decide)).go e02) fun m hm H3 e3 => ?_
    have e03 := e02.trans e3
    have X3 := X.ext e03
    have hf : fMay s z y = [if Vbchaj.mayBe s x.2 y.toNat = true then 1 else 0] := hf.trans (by rw [if_neg (by rw [hm]; exact Bool.false_ne_true)])
    have k0 := k.yes (by rw [hf]; exact not_neg_one)
    rw [hf] at k0
    have e : V.int y = nV y.toNat := by show V.int y = V.int ((y.toNat : Nat) : Int); rw [keyed_pos hy]
    rw [e]
    refine q_when (et_not (et_B (ev_isMoved X3 (ev_var rfl) (ev_var rfl) hxk hz))) (fun hb H4 e4 => ?_) (fun hb H4 e4 => ?_)
    · have hm0 : Vbchaj.mayBe s x.2 y.toNat = false := by
        unfold Vbchaj.mayBe
        rw [Bool.not_eq_true'] at hb
        rw [hb, Bool.false_and]
      rw [hm0] at k0
      exact s_retL (el_lst (ea_cons ev_c ea_nil) (by show 1 ≤ 100000; decide)) (retL_mono k0 (e03.trans e4))
    · have hb : Vbchaj.isMoved s x.2 = true := by rw [← Bool.not_eq_false', hb]
      rw [Cm.isMoved_iff] at hb
      have hmy := Cm.may_eq X.inv (X.memc hx) (of_decide_eq_true hb) y.toNat
      have X4 := X3.ext e4
      refine s_retL (el_lst (ea_cons (ev_cbs (as_v (ev_to (ev_cal (as_v (ev_rooms TH (ev_var rfl) X4.hs) (as_L (el_movedC (ev_var rfl) X4.hs) fun p H5 e5 h5 => as_v (ev_var rfl) (as_v (ev_var rfl) (as_nil fun H6 e6 => sv_mayGo (c := x.2) (m := y.toNat) (X4.hs.ext (e5.trans e6)).rooms (sq_of (e6 _ _ h5)) ((X4.hs.ext (e5.trans e6)).ok.ord.mov s.members) ((X4.hs.ext (e5.trans e6)).ok.sub (fun q hq => (List.mem_singleton.mp hq) ▸ hx) (by show 1 ≤ 100; decide))))))) ?_) (as_nil fun H5 e5 => rc_intB _))) ea_nil) (by show 1 ≤ 100000; decide)) (retL_mono k0 (e03.trans e4))
      rw [hmy, X.mov]
/-! ### tell_members, tell_clients -/
def fMembers (s : Vbchaj.State) : List Int := (Vbchaj.step s .members).2
def flatM (ms : List Mem) : List Nat := ms.flatMap fun m => [m.key, m.room]
theorem flatM_succ {l : List Mem} {i : Nat} {z : Mem} (h : l[i]? = some z) : flatM (l.take (i + 1)) = flatM (l.take i) ++ [z.key, z.room] := by
  obtain ⟨hi, rfl⟩ := List.getElem?_eq_some_iff.mp h
  unfold flatM
  rw [List.take_succ_eq_append_getElem hi, List.flatMap_append]
  simp
theorem flatM_len (l : List Mem) : (flatM l).length = 2 * l.length := by
  unfold flatM
  induction l with
  | nil => rfl
  | cons a l ih => rw [List.flatMap_cons, List.length_append, ih]; simp; omega
theorem keysM_at {ms : List Mem} {i : Nat} {v : V} (h : (nats (keysM ms))[i]? = some v) : ∃ m, ms[i]? = some m ∧ v = nV m.key ∧ m ∈ ms := by
  unfold nats keysM at h
  rw [List.getElem?_map, List.getElem?_map] at h
  cases q : ms[i]? with
  | none => rw [q] at h; cases h
  | some m => rw [q] at h; exact ⟨m, rfl, (Option.some.inj h).symm, List.mem_of_getElem? q⟩
theorem ev_lenRooms {σ : L2.St} {H : Hp} {te : TE} {d : Addr} {ms : List Mem} (R : RoomsAt H d ms) (h : Ev te σ H (.ref d)) : Ev (tCB (fun xs H Q => ∃ a kvs, xs = [V.ref a] ∧ H a = some (HO.dK kvs) ∧ Q (V.int (kvs.length : Int)) H) (tCons te tNil)) σ H (.int (ms.length : Int)) :=
  ev_cbs (as_v h (as_nil fun H1 e H2 e2 Q q => by
    obtain ⟨l, p, hd⟩ := R.ex
    refine ⟨d, rk l, rfl, (e.trans e2) _ _ hd, ?_⟩
    rw [rk_len, p.length_eq]
    exact q H2 (Ex.refl H2)))
abbrev s_tell_members : Stmt := top 56
abbrev N_tell_members : List Str := ["house", "found", "key"]
abbrev P_tell_members : List Str := ["house"]
theorem sc_tell_members : FnScope N_tell_members P_tell_members (defScope s_tell_members) := ⟨rfl, rfl, rfl, by decide +kernel, rfl, by decide +kernel, by decide +kernel⟩

theorem ok_tell_members (TH : ClsH K CH) (B : Blt mg) (D : Dfn K mg "tell_members" s_tell_members P_tell_members) (c_members_of : Cal P w K mg base 1 "members_of" spMembers) : Cal P w K mg base 2 "tell_members" (spA0 CH C fMembers) := by
  refine cal_of D sc_tell_members (fun vs H Q E h => ?_) fun f cdv A outer s H vs Q E hr h => ?_
  · obtain ⟨a, b, c, d, e, rfl, _⟩ := h; rfl
  · refine ⟨_, (pss_cons (ps_set (i := 1) sc_tell_members.nd rfl (Or.inl rfl) (pe_lst (by exact (pa_cons (pe_callB call_lenD (by rfl) B.len PySem.boot_len (by exact (pa_cons (pe_fld (pv 0) rfl) pa_nil))) pa_nil))))
  (pss_cons (ps_for PassesOwn.never rfl (pi_list (pe_d c_members_of hr (by exact (pa_cons (pe_fld (pv 0) rfl) pa_nil)))) (pg_name (i := 2) sc_tell_members.nd rfl (Or.inl rfl))
  (pss_one (ps_expr (pe_bm PySem.F.plainAttrs_list PySem.F.slot_list_extend PySem.F.type_list_extend mt_extend (pv 1) (by exact (pa_cons (pe_lst (by exact (pa_cons (pv 2) (pa_cons (pe_dget (hu_of hr) (pe_fld (pv 0) rfl) (pv 2) (fun _ _ => rfl)) pa_nil)))) pa_nil))))))
  (pss_one (ps_ret (pv 1))))), ?_⟩
    obtain ⟨h, rd, cl, s, L, rfl, X, k⟩ := h
    have hfew := X.inv.few
    refine q_asgL (el_lst (ea_cons (ev_lenRooms X.hs.rooms (ev_rooms TH (ev_var rfl) X.hs)) ea_nil) (by show 1 ≤ 100000; decide)) fun fl H1 hfl e1 h1 => ?_
    have X1 := X.ext e1
    refine q_forNLn (el_cal (as_v (ev_rooms TH (ev_var rfl) X1.hs) (as_nil fun H2 e => sl_members (X1.hs.ext e).rooms))) (fun p i σ' H' => ∃ v2, σ' = [some (.ref h), some (.ref fl), v2] ∧ Ex H H' ∧ p ≠ fl ∧ H' p = some (.lst (nats (keysM s.members))) ∧ H' fl = some (.lst (nats (s.members.length :: flatM (s.members.take i)))))
      (fun p H2 hp e2 h2 => ⟨none, rfl, e1.trans e2, fun q => (by subst q; rw [h1] at hp; cases hp), h2, e2 _ _ h1⟩) (fun p i σ' H' hi ⟨_, _, _, _, hp, _⟩ => sq_of hp) (fun p i x σ' H' hx ⟨v2, es, ex, hn, hp, hf⟩ => ?_) fun p σ' H' ⟨v2, es, ex, hn, hp, hf⟩ => ?_
    · subst es
      obtain ⟨m, hm, rfl, hmm⟩ := keysM_at hx
      have X' := X.ext ex
      have hl2 := flatM_len (s.members.take i)
      rw [List.length_take] at hl2
      refine s_ext hf (ev_var rfl) (el_lst (ea_cons (ev_var rfl) (ea_cons (ev_room X'.hs.rooms hmm (ev_rooms TH (ev_var rfl) X'.hs) (ev_var rfl)) ea_nil)) (by show 2 ≤ 100000; decide)) ?_ fun H4 e4 => ⟨_, rfl, Ex.mut (ex.trans e4) hfl, hn, ?_, ?_⟩
      · rw [nats_len, List.length_cons, hl2]
        show _ + 2 ≤ 16777216
        omega
      · rw [upd_ne hn]; exact e4 _ _ hp
      · rw [upd_same, flatM_succ hm, ← List.cons_append, nats_app]; rfl
    · subst es
      rw [nats_len, keys_len, List.take_length] at hf
      refine s_ret (ev_var rfl) fun H3 e3 => ?_
      have hk : fMembers s = Vbchaj.ints (s.members.length :: flatM s.members) := rfl
      rw [hk, zs_ints] at k
      exact k fl H3 hfl (ex.trans e3) (e3 _ _ hf)
def fClients (s : Vbchaj.State) : List Int := (Vbchaj.step s .clients).2
def flatC (cs : List Cli) : List Nat := cs.flatMap fun c => c.key :: c.order :: c.takers.length :: c.takers
theorem flatC_succ {l : List AC} {i : Nat} {z : AC} (h : l[i]? = some z) : flatC ((l.take (i + 1)).map Prod.snd) = flatC ((l.take i).map Prod.snd) ++ (z.2.key :: z.2.order :: z.2.takers.length :: z.2.takers) := by
  obtain ⟨hi, rfl⟩ := List.getElem?_eq_some_iff.mp h
  unfold flatC
  rw [List.take_succ_eq_append_getElem hi, List.map_append, List.flatMap_append]
  simp
theorem flatC_len (n : Nat) : ∀ (l : List Cli), (∀ c ∈ l, c.takers.length ≤ n) → (flatC l).length ≤ l.length * (n + 3)
  | [], _ => Nat.zero_le _
  | c :: l, h => by
    have ih := flatC_len n l fun x hx => h x (List.mem_cons_of_mem _ hx)
    have h1 := h c List.mem_cons_self
    show (flatC (c :: l)).length ≤ (l.length + 1) * (n + 3)
    have e : flatC (c :: l) = (c.key :: c.order :: c.takers.length :: c.takers) ++ flatC l := List.flatMap_cons ..
    rw [e, List.length_append, List.length_cons, List.length_cons, List.length_cons, Nat.add_mul]
    omega
abbrev s_tell_clients : Stmt := top 57
abbrev N_tell_clients : List Str := ["house", "found", "client"]
abbrev P_tell_clients : List Str := ["house"]
theorem sc_tell_clients : FnScope N_tell_clients P_tell_clients (defScope s_tell_clients) := ⟨rfl, rfl, rfl, by decide +kernel, rfl, by decide +kernel, by decide +kernel⟩

theorem ok_tell_clients (TH : ClsH K CH) (TC : ClsC K C) (B : Blt mg) (D : Dfn K mg "tell_clients" s_tell_clients P_tell_clients) (c_in_order : Cal P w K mg base 4 "in_order" (spOrder K C)) : Cal P w K mg base 5 "tell_clients" (spA0 CH C fClients) := by
  refine cal_of D sc_tell_clients (fun vs H Q E h => ?_) fun f cdv A outer s H vs Q E hr h => ?_
  · obtain ⟨a, b, c, d, e, rfl, _⟩ := h; rfl
  · refine ⟨_, (pss_cons (ps_set (i := 1) sc_tell_clients.nd rfl (Or.inl rfl) (pe_lst (by exact (pa_cons (pe_callB call_len_seq (by rfl) B.len (by decide +kernel) (by exact (pa_cons (pe_fld (pv 0) rfl) pa_nil))) pa_nil))))
  (pss_cons (ps_for PassesOwn.never rfl (pi_list (pe_d c_in_order hr (by exact (pa_cons (pe_fld (pv 0) rfl) pa_nil)))) (pg_name (i := 2) sc_tell_clients.nd rfl (Or.inl rfl))
  (pss_one (ps_expr (pe_bm PySem.F.plainAttrs_list PySem.F.slot_list_extend PySem.F.type_list_extend mt_extend (pv 1) (by exact (pa_cons (pe_op op_cat (pe_lst (by exact (pa_cons (pe_fld (pv 2) rfl) (pa_cons (pe_fld (pv 2) rfl) (pa_cons (pe_callB call_len_seq (by rfl) B.len (by decide +kernel) (by exact (pa_cons (pe_fld (pv 2) rfl) pa_nil))) pa_nil))))) (pe_fld (pv 2) rfl)) pa_nil))))))
  (pss_one (ps_ret (pv 1))))), ?_⟩
    obtain ⟨h, rd, cl, s, L, rfl, X, k⟩ := h
    have hfew := X.hs.ok.ord.few
    refine q_asgL (el_lst (ea_cons (ev_len (ev_clients TH (ev_var rfl) X.hs) (sq_of X.hs.lst)) ea_nil) (by show 1 ≤ 100000; decide)) fun fl H1 hfl e1 h1 => ?_
    rw [refs_len] at h1
    have X1 := X.ext e1
    refine q_forNLn (el_order TH (ev_var rfl) X1.hs) (fun p i σ' H' => ∃ v2, σ' = [some (.ref h), some (.ref fl), v2] ∧ Ex H H' ∧ p ≠ fl ∧ H' p = some (.lst (refs (ordL L))) ∧ H' fl = some (.lst (nats (L.length :: flatC (((ordL L).take i).map Prod.snd)))))
      (fun p H2 hp e2 h2 => ⟨none, rfl, e1.trans e2, fun q => (by subst q; rw [h1] at hp; cases hp), h2, e2 _ _ h1⟩) (fun p i σ' H' hi ⟨_, _, _, _, hp, _⟩ => sq_of hp) (fun p i x σ' H' hx ⟨v2, es, ex, hn, hp, hf⟩ => ?_) fun p σ' H' ⟨v2, es, ex, hn, hp, hf⟩ => ?_
    · subst es
      obtain ⟨y, hy, rfl, hyL⟩ := refs_at hx
      have X' := X.ext ex
      have at_ := X'.hs.ok.ord.at_ y hyL
      have ht := X'.hs.ok.ord.tl y hyL
      obtain ⟨t, ht1, ht2⟩ := ev_takers (K := K) (te := tVar 2) (σ := [some (.ref h), some (.ref fl), some (.ref y.1)]) TC (ev_var rfl) at_
      have hl2 := flatC_len 100 (((ordL L).take i).map Prod.snd) fun c hc => by
        obtain ⟨q, hq, rfl⟩ := List.mem_map.mp hc
        exact X'.hs.ok.ord.tl q (List.mem_of_mem_take hq)
      rw [List.length_map, List.length_take] at hl2
      refine s_ext hf (ev_var rfl) (el_catV (el_lst (ea_cons (ev_key TC (ev_var rfl) at_) (ea_cons (ev_order TC (ev_var rfl) at_) (ea_cons (ev_len ht2 (sq_of ht1)) ea_nil))) (by show 3 ≤ 100000; decide)) ht2 ht1 ?_) ?_ fun H4 e4 => ⟨_, rfl, Ex.mut (ex.trans e4) hfl, hn, ?_, ?_⟩
      · rw [nats_len]; show 3 + _ ≤ 100000; omega
      · rw [List.length_append, nats_len, nats_len, List.length_cons]
        show _ + (3 + _) ≤ 16777216
        omega
      · rw [upd_ne hn]; exact e4 _ _ hp
      · rw [upd_same, flatC_succ hy, ← List.cons_append, nats_app, nats_len]; rfl
    · subst es
      rw [refs_len, List.take_length, X.ord] at hf
      refine s_ret (ev_var rfl) fun H3 e3 => ?_
      have hk : fClients s = Vbchaj.ints (s.clients.length :: flatC s.clients) := rfl
      rw [hk, zs_ints, ← X.lenL] at k
      exact k fl H3 hfl (ex.trans e3) (e3 _ _ hf)
end
end Cw
namespace Cw
open PySem PySem.Spec PyProof.Rows L2 Evl
open PySem.RefX (RefTxt)
open Cm (keysM setN isW hasB roomSl goesIn keptToo isFreeB withoutPlace movedBy allSl freeOf goalsOf GoalsOk keysOf leastOf isProof proofsOf boundsOf coversOf Inv Wn ckeys gl lessBy)
section
variable {P : Program} {w : World} {K : PySem.W.Frag} {mg : Str → Option Value} {base : Heap} {C CH R fI : Addr}
def fIsPlan (s : Vbchaj.State) (l : List Int) : List Int := (Vbchaj.step s (.isPlan l)).2
theorem isplan1 {s : Vbchaj.State} {l : List Int} (h : ¬ (l.length % 2 = 0 ∧ l.length ≤ 32 ∧ l.all Vbchaj.keyed = true)) : fIsPlan s l = [-1] := by
  show (if (decide (l.length % 2 = 0) && (decide (l.length ≤ 2 * Vbchaj.CLIENTS) && l.all Vbchaj.keyed)) = false then (s, [-1]) else _ : Vbchaj.State × List Int).2 = _
  rw [if_pos]
  refine Bool.eq_false_iff.mpr fun q => h ?_
  rw [Bool.and_eq_true, Bool.and_eq_true, decide_eq_true_iff, decide_eq_true_iff] at q
  exact q
theorem isplan0 {s : Vbchaj.State} {l : List Int} (h : l.length % 2 = 0 ∧ l.length ≤ 32 ∧ l.all Vbchaj.keyed = true) :
    fIsPlan s l = [if Vbchaj.rightPlan s ((Vbchaj.pairsOf l).map fun x => (x.1.toNat, x.2.toNat)) = true then 1 else 0] := by
  show (if (decide (l.length % 2 = 0) && (decide (l.length ≤ 2 * Vbchaj.CLIENTS) && l.all Vbchaj.keyed)) = false then (s, [-1]) else _ : Vbchaj.State × List Int).2 = _
  rw [if_neg]
  rw [Bool.not_eq_false, Bool.and_eq_true, Bool.and_eq_true, decide_eq_true_iff, decide_eq_true_iff]
  exact h
theorem keyed_B (z : Int) : Vbchaj.keyed z = (decide (1 ≤ z) && decide (z ≤ 1000000000)) := rfl
def zipO (M : List AC) (O : List Nat) : List (AC × Nat) := M.zip O
theorem zipO_at {M : List AC} {O : List Nat} {n : Nat} {x y : V} (hx : (refs M)[n]? = some x) (hy : (nats O)[n]? = some y) :
    ∃ a g, x = .ref a.1 ∧ y = nV g ∧ (zipO M O)[n]? = some (a, g) ∧ a ∈ M ∧ g ∈ O := by
  obtain ⟨a, ha, rfl, hm⟩ := refs_at hx
  obtain ⟨g, hg, rfl, hm'⟩ := nats_at hy
  refine ⟨a, g, rfl, rfl, ?_, hm, hm'⟩
  unfold zipO
  rw [List.getElem?_zip_eq_some]
  exact ⟨ha, hg⟩
theorem all_take {α : Type} {l : List α} {q : α → Bool} {i : Nat} {x : α} (hx : l[i]? = some x) (hn : (l.take i).all q = true) : (l.take (i + 1)).all q = q x := by
  obtain ⟨hi, rfl⟩ := List.getElem?_eq_some_iff.mp hx
  rw [List.take_succ_eq_append_getElem hi, List.all_append, hn, Bool.true_and, List.all_cons, List.all_nil, Bool.and_true]
theorem all_less {α : Type} {l : List α} {q : α → Bool} {i : Nat} (h : (l.take i).all q = false) : l.all q = false := by
  rw [← List.take_append_drop i l, List.all_append, h, Bool.false_and]
abbrev s_isplan : Stmt := top 55
abbrev N_isplan : List Str := ["house", "places", "clients", "goals", "client", "goal", "key"]
abbrev P_isplan : List Str := ["house", "places"]
theorem sc_isplan : FnScope N_isplan P_isplan (defScope s_isplan) := ⟨rfl, rfl, rfl, by decide +kernel, rfl, by decide +kernel, by decide +kernel⟩

theorem ok_isplan (TH : ClsH K CH) (TC : ClsC K C) (TR : RefTxt K mg R fI) (TK : Cst mg) (B : Blt mg) (D : Dfn K mg "isplan" s_isplan P_isplan) (c_moved_clients : Cal P w K mg base 5 "moved_clients" (spMovedC CH C)) :
    CalX P w K mg base 6 "isplan" (spAL K CH C R fIsPlan) := by
  refine calX_of D sc_isplan (fun vs H Q E h => ?_) fun f cdv A outer s H vs Q E hr h => ?_
  · obtain ⟨a, b, c, d, e, g, i, rfl, _⟩ := h; rfl
  · refine ⟨_, (pss_cons (ps_if (PW.pt (pw_or (pt_cmpR op_gt (pe_callB call_len_seq (by rfl) B.len (by decide +kernel) (by exact (pa_cons (pv 1) pa_nil))) (pe_gi rfl TK.PLACES_MOST) (nomark _)) (pw_or (pt_cmpR op_eq (pe_op op_mod (pe_callB call_len_seq (by rfl) B.len (by decide +kernel) (by exact (pa_cons (pv 1) pa_nil))) pe_int) pe_int (nomark _)) (pw_or1 (pt_not (pt_val (pe_callB (cr_all rfl) (by rfl) B.all (by decide +kernel) (by exact (pa_cons (pe_lc (own := [("key", 6)]) (g := gName 6) rfl sc_isplan.nd (pi_list (pv 1)) (blkOk_by (N := N_isplan) (sc := defScope s_isplan) (by decide +kernel)) (fun _ _ _ _ _ => by exact (pg_name (i := 6) sc_isplan.nd rfl (Or.inl rfl))) (fun _ _ _ _ _ => by exact pts_nil) (fun _ _ _ _ _ => by exact (pe_chain op_le op_le pe_int (pv 6) (pe_gi rfl TK.KEY_MOST)))) pa_nil))))))))) (pss_one (ps_raiseRef rfl TR hr (takes_of rfl rfl rfl rfl) (by exact (pa_cons (pe_un un_neg pe_int) pa_nil)))) pss_nil)
  (pss_cons (ps_set (i := 2) sc_isplan.nd rfl (Or.inl rfl) (pe_d c_moved_clients hr (by exact (pa_cons (pv 0) pa_nil))))
  (pss_cons (ps_if (pt_cmpR (op_neD hr.units) (pe_lc (own := [("client", 4)]) (g := gName 4) rfl sc_isplan.nd (pi_list (pv 2)) (blkOk_by (N := N_isplan) (sc := defScope s_isplan) (by decide +kernel)) (fun _ _ _ _ _ => by exact (pg_name (i := 4) sc_isplan.nd rfl (Or.inl rfl))) (fun _ _ _ _ _ => by exact pts_nil) (fun _ _ _ _ _ => by exact (pe_fldK (K := K) rfl (pv 4) rfl))) (pe_step0 (pv 1)) (nomark _)) (pss_one (ps_ret (pe_lst (by exact (pa_cons pe_int pa_nil))))) pss_nil)
  (pss_cons (ps_set (i := 3) sc_isplan.nd rfl (Or.inr rfl) (pe_step1 (pv 1)))
  (pss_cons (ps_for (passes_of rfl) rfl (pi_zip (by rfl) B.zip (by exact (pa_cons (pv 2) (pa_cons (pv 3) pa_nil)))) (pg_tup rfl (pgs_cons (pg_name (i := 4) sc_isplan.nd rfl (Or.inl rfl)) (pgs_cons (pg_name (i := 5) sc_isplan.nd rfl (Or.inl rfl)) pgs_nil)))
  (pss_one (ps_if (pt_cmpR op_notIn_seq (pv 5) (pe_fld (pv 4) rfl) (by rfl)) (pss_one (ps_ret (pe_lst (by exact (pa_cons pe_int pa_nil))))) pss_nil)))
  (pss_one (ps_ret (pe_lst (by exact (pa_cons (pe_callTy call_int1 (by rfl) B.int (by decide +kernel) (by exact (pa_cons (pe_callB (cr_all rfl) (by rfl) B.all (by decide +kernel) (by exact (pa_cons (pe_lc (own := [("goal", 5)]) (g := gName 5) rfl sc_isplan.nd (pi_list (pv 3)) (blkOk_by (N := N_isplan) (sc := defScope s_isplan) (by decide +kernel)) (fun _ _ _ _ _ => by exact (pg_name (i := 5) sc_isplan.nd rfl (Or.inl rfl))) (fun _ _ _ _ _ => by exact pts_nil) (fun _ _ _ _ _ => by exact (pe_cmpR op_le (pe_bmK (K := K) rfl PySem.F.plainAttrs_list PySem.F.slot_list_count PySem.F.type_list_count (mt_lcountK (K := K) rfl) (pv 3) (by exact (pa_cons (pv 5) pa_nil))) (pe_dget (hu_of hr) (pe_fldK (K := K) rfl (pv 0) rfl) (pv 5) (fun _ _ => rfl)) (nomark _)))) pa_nil))) pa_nil))) pa_nil)))))))))), ?_⟩
    obtain ⟨h, rd, cl, a, s, L, ns, rfl, X, hs, hn, k⟩ := h
    refine q_when (b := decide ((32 : Int) < ns.length) || (decide ((ns.length : Int) % 2 = 1) || !ns.all Vbchaj.keyed)) (et_or (et_op (ev_len (ev_var rfl) hs) ev_c (by rw [zs_len]; exact rv_I0)) fun _ => et_or (et_op (ev_op (ev_len (ev_var rfl) hs) ev_c (rv_I (by decide))) ev_c (by rw [zs_len]; exact rv_eqI _ _)) fun _ => et_not (et_B (ev_allN (L := ns) (g := Vbchaj.keyed) ?_))) (fun hb H1 e1 => ?_) (fun hb H1 e1 => ?_)
    · refine el_to (el_lcM ns V.int (fun z => V.bl (Vbchaj.keyed z)) (fun _ => true) (ev_var rfl) hs (by omega) (fun _ => rfl) (fun _ _ _ _ => et_yes) fun z hz H2 e2 _ => ?_) ?_
      · rw [keyed_B]
        exact ev_chainI ev_c (ev_var rfl) ev_c
      · rw [filter_true]
    · refine s_raise (ev_neg ev_c) ((k.no _ (isplan1 ?_) (by decide)).go e1)
      rintro ⟨h1, h2, h3⟩
      rw [h3, Bool.or_eq_true, Bool.or_eq_true, decide_eq_true_iff, decide_eq_true_iff] at hb
      rcases hb with hb | hb | hb
      · omega
      · omega
      · cases hb
    · rw [Bool.or_eq_false_iff, Bool.or_eq_false_iff, decide_eq_false_iff_not, decide_eq_false_iff_not, Bool.not_eq_false'] at hb
      obtain ⟨h32, hev, hall⟩ := hb
      have hok : ns.length % 2 = 0 ∧ ns.length ≤ 32 ∧ ns.all Vbchaj.keyed = true := ⟨by omega, by omega, hall⟩
      have hpos : ∀ z ∈ ns, 0 ≤ z := fun z hz => by have := (keyed_iff z).mp (List.all_eq_true.mp hall z hz); omega
      have hf := isplan0 (s := s) hok
      have hl : (evens (Vbchaj.nats ns)).length = (odds (Vbchaj.nats ns)).length := by
        rw [evens_len, odds_len]
        unfold Vbchaj.nats
        rw [List.length_map]
        omega
      have hl32 : (odds (Vbchaj.nats ns)).length ≤ 16 := by
        rw [odds_len]
        unfold Vbchaj.nats
        rw [List.length_map]
        omega
      rw [pairs_eq, plan_eq X.inv hl] at hf
      generalize hE : evens (Vbchaj.nats ns) = Ev' at hf hl
      generalize hO : odds (Vbchaj.nats ns) = Od at hf hl hl32
      have k0 := k.yes (by rw [hf]; exact not_neg_one)
      rw [hf] at k0
      have hs1 := ex_l e1 hs
      rw [zs_nats hpos] at hs1
      have eE : evens (nats (Vbchaj.nats ns)) = nats Ev' := by rw [← hE]; exact evens_map _ _
      have eO : odds (nats (Vbchaj.nats ns)) = nats Od := by rw [← hO]; exact odds_map _ _
      have X1 := X.ext e1
      refine q_asgL (el_movedC (ev_var rfl) X1.hs) fun p H2 hp e2 h2 => ?_
      have X2 := X1.ext e2
      have e02 := e1.trans e2
      have hM := X.room
      have okM := X2.hs.ok.ord.mov s.members
      refine q_when (b := !decide (keysA (movL s.members (ordL L)) = Ev')) (et_test (ev_opLL (el_keys TC okM.few (fun x hx => okM.at_ x hx) (ev_var rfl) (sq_of h2) (fun _ => rfl) (fun _ => rfl)) (el_to (el_step (ev_var rfl) (ex_l e2 hs1) (by rw [eE, nats_len]; omega)) eE) fun p q H3 hp hq e3 => rv_neNats (sq_of hp) (sq_of hq))) (fun hb H3 e3 => ?_) (fun hb H3 e3 => ?_)
      · rw [Bool.not_eq_true', decide_eq_false_iff_not, X.movk] at hb
        have : planB s.members (Vbchaj.movedOf s.members s.clients) Ev' Od = false := by unfold planB; rw [decide_eq_false hb, Bool.false_and]
        rw [this] at k0
        exact s_retL (el_lst (ea_cons ev_c ea_nil) (by show 1 ≤ 100000; decide)) (retL_mono k0 (e02.trans e3))
      · rw [Bool.not_eq_false', decide_eq_true_iff] at hb
        have hpl : planB s.members (Vbchaj.movedOf s.members s.clients) Ev' Od = ((zipO (movL s.members (ordL L)) Od).all (fun x => decide (x.2 ∈ x.1.2.takers)) && Od.all fun g => decide (Od.count g ≤ Vbchaj.roomOf s.members g)) := by
          unfold planB zipO
          rw [← X.movk, decide_eq_true hb, Bool.true_and, ← X.mov, List.zip_map_left, List.all_map]; rfl
        rw [hpl] at k0
        have hlenM : (movL s.members (ordL L)).length = Od.length := by rw [← keysA_len, hb, hl]
        have X3 := X2.ext e3
        have e03 := e02.trans e3
        refine q_asgL (el_to (el_step (ev_var rfl) (ex_l (e2.trans e3) hs1) (by rw [eO, nats_len]; omega)) eO) fun g H4 hg e4 h4 => ?_
        have X4 := X3.ext e4
        have e04 := e03.trans e4
        refine q_forZ (xs := refs (movL s.members (ordL L))) (ys := nats Od) (a := p) (fun b i σ' H' => ∃ v4 v5 v6, σ' = [some (.ref h), some (.ref a), some (.ref p), some (.ref g), v4, v5, v6] ∧ Ex H4 H' ∧ b = g ∧
            ((zipO (movL s.members (ordL L)) Od).take i).all (fun x => decide (x.2 ∈ x.1.2.takers)) = true) (by rw [refs_len, nats_len, hlenM]) ?_ ?_ (fun b i x y T σ' H' hx hy ⟨v3, v4, v5, es, ex, hb', hf'⟩ H3' e3' => ?_) fun b σ' H' ⟨v3, v4, v5, es, ex, hb', hf'⟩ => ?_
        · exact as_v (ev_var rfl) (as_v (ev_var rfl) (as_nil fun H5 e5 => ⟨g, rfl, none, none, none, rfl, e5, rfl, rfl⟩))
        · rintro b i σ' H' ⟨v3, v4, v5, es, ex, rfl, hf'⟩
          exact ⟨sq_of ((e3.trans (e4.trans ex)) _ _ h2), sq_of (ex _ _ h4)⟩
        · subst es
          obtain ⟨c, o, rfl, rfl, hz, hc, ho⟩ := zipO_at hx hy
          have X5 := X4.ext (ex.trans e3')
          have okV := X5.hs.ok.ord.mov s.members
          have hat := all_take (q := fun x : AC × Nat => decide (x.2 ∈ x.1.2.takers)) hz hf'
          obtain ⟨t, ht1, ht2⟩ := ev_takers (K := K) (te := tVar 4) (σ := [some (.ref h), some (.ref a), some (.ref p), some (.ref g), some (.ref c.1), some (nV o), v5]) TC (ev_var rfl) (okV.at_ c hc)
          refine s_when (et_test (ev_ninN (ev_var rfl) ht2 (sq_of ht1))) (fun hb2 H6 e6 => ?_) (fun hb2 H6 e6 => ⟨_, _, _, rfl, ex.trans (e3'.trans e6), hb', ?_⟩)
          · rw [Bool.not_eq_true'] at hb2
            have : ((zipO (movL s.members (ordL L)) Od).take (i + 1)).all (fun x => decide (x.2 ∈ x.1.2.takers)) = false := hat.trans hb2
            rw [all_less this, Bool.false_and] at k0
            exact s_retL (el_lst (ea_cons ev_c ea_nil) (by show 1 ≤ 100000; decide)) (retL_mono k0 (e04.trans (ex.trans (e3'.trans e6))))
          · rw [Bool.not_eq_false'] at hb2
            exact hat.trans hb2
        · subst es
          have hzl : (zipO (movL s.members (ordL L)) Od).length = (movL s.members (ordL L)).length := by unfold zipO; rw [List.length_zip]; omega
          rw [refs_len, ← hzl, List.take_length] at hf'
          rw [hf', Bool.true_and] at k0
          have X5 := X4.ext ex
          have hkey : ∀ o ∈ Od, ∃ m ∈ s.members, m.key = o := fun o ho => by
            obtain ⟨i, hi, rfl⟩ := List.mem_iff_getElem.mp ho
            have hm : ((movL s.members (ordL L))[i]'(by omega), Od[i]) ∈ zipO (movL s.members (ordL L)) Od := by
              rw [List.mem_iff_getElem]
              exact ⟨i, by rw [hzl]; omega, List.getElem_zip⟩
            have h1 := of_decide_eq_true (List.all_eq_true.mp hf' _ hm)
            exact List.mem_map.mp ((X5.hs.ok.ord.mov s.members).tk _ (List.getElem_mem _) _ h1)
          refine s_retL (el_lst (ea_cons (ev_cbs (as_v (ev_allN (L := Od) (g := fun g => decide (Od.count g ≤ Vbchaj.roomOf s.members g)) ?_) (as_nil fun H5 e5 => rc_intB _))) ea_nil) (by show 1 ≤ 100000; decide)) (retL_mono k0 (e04.trans ex))
          refine el_to (el_lcM Od nV (fun o => V.bl (decide (Od.count o ≤ Vbchaj.roomOf s.members o))) (fun _ => true) (ev_var rfl) (sq_of (ex _ _ h4)) (by omega) (fun _ => rfl) (fun _ _ _ _ => et_yes) fun o ho H6 e6 _ => ?_) (by rw [filter_true])
          obtain ⟨m, hm, rfl⟩ := hkey o ho
          have X6 := X5.ext e6
          rw [Cm.roomOf_mem X.inv.wn.nk hm]
          refine ev_to (ev_op (ev_count (ev_var rfl) (sq_of ((ex.trans e6) _ _ h4)) (ev_var rfl)) (ev_room X6.hs.rooms hm (ev_rooms TH (ev_var rfl) X6.hs) (ev_var rfl)) rv_I0) ?_
          congr 1
          rw [Bool.eq_iff_iff, decide_eq_true_iff, decide_eq_true_iff]
          omega
end
end Cw
namespace Cw
open PySem PySem.Spec PyProof.Rows L2 Evl
open PySem.RefX (RefTxt)
open Cm (keysM setN isW hasB roomSl goesIn keptToo isFreeB withoutPlace movedBy allSl freeOf goalsOf GoalsOk keysOf leastOf isProof proofsOf boundsOf coversOf Inv Wn ckeys gl lessBy)
/-! ### what a call leaves as it was -/
def Fr (cl : Addr) (H H' : Hp) : Prop := ∀ b u, H b = some u → b ≠ cl → (∀ C dx fs, u ≠ .ins C dx fs) → (∀ kvs, u ≠ .dK kvs) → H' b = some u
theorem Fr.of {cl : Addr} {H H' : Hp} (e : Ex H H') : Fr cl H H' := fun b u h _ _ _ => e b u h
theorem Fr.ex {cl : Addr} {H H1 H' : Hp} (e : Ex H H1) (f : Fr cl H1 H') : Fr cl H H' := fun b u h h1 h2 h3 => f b u (e b u h) h1 h2 h3
theorem Fr.then {cl : Addr} {H H1 H' : Hp} (f : Fr cl H H1) (e : Ex H1 H') : Fr cl H H' := fun b u h h1 h2 h3 => e _ _ (f b u h h1 h2 h3)
theorem Fr.mut {cl : Addr} {H H' : Hp} {p : Addr} {o : HO} (f : Fr cl H H') (hp : p = cl ∨ H p = none ∨ (∃ C dx fs, H p = some (.ins C dx fs)) ∨ ∃ kvs, H p = some (.dK kvs)) : Fr cl H (upd H' p o) := fun b u h h1 h2 h3 => by
  rw [upd_ne]
  · exact f b u h h1 h2 h3
  · rintro rfl
    rcases hp with hp | hp | ⟨C, dx, fs, hp⟩ | ⟨kvs, hp⟩
    · exact h1 hp
    · rw [hp] at h; cases h
    · rw [hp] at h; exact h2 _ _ _ (Option.some.inj h).symm
    · rw [hp] at h; exact h3 _ (Option.some.inj h).symm
theorem Fr.sq {K : PySem.W.Frag} {cl : Addr} {H H' : Hp} {a : Addr} {xs : List V} (f : Fr cl H H') (h : SqL K H a xs) (ha : a ≠ cl) : SqL K H' a xs := by
  rcases h with (h | ⟨o, h⟩) | h
  · exact Or.inl (Or.inl (f _ _ h ha (fun _ _ _ => by simp) (fun _ => by simp)))
  · exact Or.inl (Or.inr ⟨o, f _ _ h ha (fun _ _ _ => by simp) (fun _ => by simp)⟩)
  · exact Or.inr h
/-- t is the list of takers of one of some clients -/
def Aw (C : Addr) (H : Hp) (L : List AC) (t : Addr) : Prop := ∃ y ∈ L, ∃ dx, H y.1 = some (.ins C dx (cF y.2 t))
theorem cF_inj {c d : Cli} {t u : Addr} (h : cF c t = cF d u) : t = u := by
  have h := congrArg (fun l : List (Str × V) => (l.drop 2).head?.map Prod.snd) h
  have h : some (V.ref t) = some (V.ref u) := h
  exact V.ref.inj (Option.some.inj h)
theorem ins_inj {C C' dx dx' : Addr} {c d : Cli} {t u : Addr} (h : some (HO.ins C dx (cF c t)) = some (HO.ins C' dx' (cF d u))) : t = u := by
  have := Option.some.inj h
  injection this with _ _ h
  exact cF_inj h
theorem aw_back {C : Addr} {H H' : Hp} {L : List AC} {t : Addr} (e : Ex H H') (hc : ∀ y ∈ L, ClAt C H y.1 y.2) (a : Aw C H' L t) : Aw C H L t := by
  obtain ⟨y, hy, dx, h⟩ := a
  obtain ⟨dy, u, h1, _⟩ := hc y hy
  have h2 := e _ _ h1
  have : t = u := ins_inj (h.symm.trans h2)
  subst this
  exact ⟨y, hy, dy, h1⟩
theorem aw_upd {C : Addr} {H : Hp} {L : List AC} {t p : Addr} {o : HO} (hn : ∀ y ∈ L, y.1 ≠ p) (a : Aw C (upd H p o) L t) : Aw C H L t := by
  obtain ⟨y, hy, dx, h⟩ := a
  rw [upd_ne (hn y hy)] at h
  exact ⟨y, hy, dx, h⟩
theorem aw_sub {C : Addr} {H : Hp} {L M : List AC} {t : Addr} (hs : ∀ y ∈ M, y ∈ L) (a : Aw C H M t) : Aw C H L t := by
  obtain ⟨y, hy, q⟩ := a
  exact ⟨y, hs y hy, q⟩
structure ToldC (CH C R : Addr) (H : Hp) (h rd cl : Addr) (L : List AC) (r : Vbchaj.State × List Int) (Q : VK) (E : XK) : Prop where
  no : ∀ c, r.2 = [c] → c < 0 → Rs R E H c
  yes : ¬ Neg r.2 → ∀ p H' cl' L', H p = none → p ≠ cl' → H' p = some (.lst (zs r.2)) → HouseAt CH C H' h rd cl' r.1 L' → (cl' = cl ∨ H cl' = none) → Fr cl H H' → (∀ t, Aw C H' L' t → H t = none ∨ Aw C H L t) → Q (.ref p) H'
section
variable {CH C R : Addr} {H H' : Hp} {h rd cl : Addr} {r : Vbchaj.State × List Int} {Q : VK} {E : XK} {L : List AC}
theorem ToldC.go {s : Vbchaj.State} (k : ToldC CH C R H h rd cl L r Q E) (X : HouseAt CH C H h rd cl s L) (e : Ex H H') : ToldC CH C R H' h rd cl L r Q E :=
  ⟨fun c h hc => (k.no c h hc).go e, fun hn p H2 cl' L' hp h1 h2 h3 h4 h5 h6 => k.yes hn p H2 cl' L' (fresh_back e hp) h1 h2 h3 (h4.imp id (fresh_back e)) (Fr.ex e h5) fun t a => (h6 t a).imp (fresh_back e) (aw_back e X.hs.ok.at_)⟩
theorem ToldC.asks {s : Vbchaj.State} (k : ToldC CH C R H h rd cl L r Q E) (X : HouseAt CH C H h rd cl s L) (hs : r.1 = s) : Told R H r.2 Q E :=
  ⟨k.no, fun hn p H2 hp e2 h2 => k.yes hn p H2 cl L hp (fun q => (by subst q; rw [X.hs.lst] at hp; cases hp)) h2 (by rw [hs]; exact X.ext e2) (Or.inl rfl) (Fr.of e2) fun t a => Or.inr (aw_back e2 X.hs.ok.at_ a)⟩
end
/-! ### the house changed -/
theorem nodup_few : ∀ {l m : List Nat}, l.Nodup → (∀ x ∈ l, x ∈ m) → l.length ≤ m.length
  | [], _, _, _ => Nat.zero_le _
  | a :: l, m, nd, h => by
    obtain ⟨n1, n2⟩ := List.nodup_cons.mp nd
    have ha := h a List.mem_cons_self
    have := nodup_few (m := m.erase a) n2 fun x hx => (List.mem_erase_of_ne (fun e : x = a => n1 (by rw [← e]; exact hx))).mpr (h x (List.mem_cons_of_mem _ hx))
    rw [List.length_erase_of_mem ha] at this
    have := List.length_pos_of_mem ha
    rw [List.length_cons]; omega
section
variable {CH C R : Addr} {H H' : Hp} {h rd cl : Addr} {s : Vbchaj.State} {L : List AC}
theorem refs_ne {L : List AC} {x : AC} {l : List Nat} (hx : x ∈ L) : refs L ≠ nats l := by
  intro e
  cases L with
  | nil => cases hx
  | cons a L =>
    cases l with
    | nil => cases e
    | cons b l => cases (List.cons.inj e).1
/-- an object that is no instance and no such list changed -/
theorem ClAt.keep {p a : Addr} {c : Cli} {u o : HO} (x : ClAt C H a c) (hp : H p = some u) (h1 : ∀ C dx fs, u ≠ .ins C dx fs) (h2 : u ≠ .lst (nats c.takers)) : ClAt C (upd H p o) a c := by
  obtain ⟨dx, t, e1, e2⟩ := x
  refine ⟨dx, t, ?_, ?_⟩
  · rw [upd_ne]
    · exact e1
    · rintro rfl
      rw [hp] at e1
      exact h1 _ _ _ (Option.some.inj e1)
  · rw [upd_ne]
    · exact e2
    · rintro rfl
      rw [hp] at e2
      exact h2 (Option.some.inj e2)
theorem ClAt.other {p a : Addr} {c : Cli} {C' dx' : Addr} {fs : List (Str × V)} {o : HO} (x : ClAt C H a c) (hp : H p = some (.ins C' dx' fs)) (hn : a ≠ p) : ClAt C (upd H p o) a c := by
  obtain ⟨dx, t, e1, e2⟩ := x
  refine ⟨dx, t, by rw [upd_ne hn]; exact e1, ?_⟩
  rw [upd_ne]
  · exact e2
  · rintro rfl
    rw [hp] at e2; cases e2
theorem ClAt.key_eq {a : Addr} {c d : Cli} (x : ClAt C H a c) (y : ClAt C H a d) : c.key = d.key := by
  obtain ⟨dx, t, e1, _⟩ := x
  obtain ⟨dy, u, e2, _⟩ := y
  rw [e1] at e2
  have := Option.some.inj e2
  injection this with _ _ h
  have h := congrArg (fun l : List (Str × V) => l.head?.map Prod.snd) h
  have h : some (nV c.key) = some (nV d.key) := h
  have := V.int.inj (Option.some.inj h)
  omega
theorem HouseAt.addr (x : HouseAt CH C H h rd cl s L) {y z : AC} (hy : y ∈ L) (hz : z ∈ L) (e : y.1 = z.1) : y = z := by
  have h1 := x.hs.ok.at_ y hy
  have h2 := x.hs.ok.at_ z hz
  rw [e] at h1
  exact Cm.key_injF (fun y : AC => y.2.key) x.ckL hy hz (h1.key_eq h2)
theorem HouseAt.h_rd (x : HouseAt CH C H h rd cl s L) : h ≠ rd := by
  obtain ⟨dx, e⟩ := x.hs.obj
  obtain ⟨l, _, e2⟩ := x.hs.rooms.ex
  rintro rfl
  rw [e] at e2; cases e2
theorem HouseAt.h_cl (x : HouseAt CH C H h rd cl s L) : h ≠ cl := by
  obtain ⟨dx, e⟩ := x.hs.obj
  have e2 := x.hs.lst
  rintro rfl
  rw [e] at e2; cases e2
theorem HouseAt.rd_cl (x : HouseAt CH C H h rd cl s L) : rd ≠ cl := by
  obtain ⟨l, _, e⟩ := x.hs.rooms.ex
  have e2 := x.hs.lst
  rintro rfl
  rw [e] at e2; cases e2
theorem RoomsAt.other {d p : Addr} {ms : List Mem} {o : HO} (r : RoomsAt H d ms) (hn : d ≠ p) : RoomsAt (upd H p o) d ms := by
  obtain ⟨l, p', e⟩ := r.ex
  exact ⟨r.lt, r.few, l, p', by rw [upd_ne hn]; exact e⟩
/-- the members' rooms put anew -/
theorem HouseAt.rooms' (x : HouseAt CH C H h rd cl s L) {o : HO} {ms : List Mem} (r : RoomsAt (upd H rd o) rd ms) (i : Inv { s with members := ms }) : HouseAt CH C (upd H rd o) h rd cl { s with members := ms } L := by
  obtain ⟨dx, e⟩ := x.hs.obj
  obtain ⟨l, _, e2⟩ := x.hs.rooms.ex
  refine ⟨⟨⟨dx, by rw [upd_ne x.h_rd]; exact e⟩, r, by rw [upd_ne x.rd_cl.symm]; exact x.hs.lst, x.hs.ok.few, fun y hy => (x.hs.ok.at_ y hy).keep e2 (fun _ _ _ => by simp) (by simp), fun y hy t ht => ?_, x.hs.ok.tl⟩, x.perm, i⟩
  exact i.tk y.2 (x.memc hy) t ht
/-- the list of clients changed -/
theorem HouseAt.list' (x : HouseAt CH C H h rd cl s L) {L' : List AC} {cs : List Cli} (hc : ∀ y ∈ L', ClAt C (upd H cl (.lst (refs L'))) y.1 y.2) (p : (L'.map Prod.snd).Perm cs) (i : Inv { s with clients := cs }) : HouseAt CH C (upd H cl (.lst (refs L'))) h rd cl { s with clients := cs } L' := by
  obtain ⟨dx, e⟩ := x.hs.obj
  have hl : L'.length = cs.length := by rw [← p.length_eq, List.length_map]
  have hcf : cs.length ≤ 16 := i.cf
  have mem : ∀ y ∈ L', y.2 ∈ cs := fun y hy => p.mem_iff.mp (List.mem_map.mpr ⟨y, hy, rfl⟩)
  have tk : ∀ y ∈ L', ∀ k ∈ y.2.takers, k ∈ keysM s.members := fun y hy k hk => i.tk y.2 (mem y hy) k hk
  refine ⟨⟨⟨dx, by rw [upd_ne x.h_cl]; exact e⟩, x.hs.rooms.other x.rd_cl, upd_same, by omega, hc, tk, fun y hy => ?_⟩, p, i⟩
  have h8 : (keysM s.members).length ≤ 8 := by rw [keys_len]; exact x.inv.few
  have := nodup_few (i.tn y.2 (mem y hy)) (tk y hy)
  omega
/-- a client changed where it stands -/
theorem HouseAt.client' (x : HouseAt CH C H h rd cl s L) {y : AC} (hy : y ∈ L) {d : Cli} (hk : d.key = y.2.key) {o : HO} (ho : ClAt C (upd H y.1 o) y.1 d) {cs : List Cli} (p : (Cm.change y.2 d s.clients).Perm cs) (i : Inv { s with clients := cs }) :
    HouseAt CH C (upd H y.1 o) h rd cl { s with clients := cs } (L.map fun x => if x.2.key = y.2.key then (x.1, d) else x) := by
  obtain ⟨dx, e⟩ := x.hs.obj
  obtain ⟨dy, ty, ey, _⟩ := x.hs.ok.at_ y hy
  have er : refs (L.map fun x => if x.2.key = y.2.key then (x.1, d) else x) = refs L := by
    unfold refs
    rw [List.map_map]
    refine List.map_congr_left fun z _ => ?_
    show V.ref (if z.2.key = y.2.key then (z.1, d) else z).1 = V.ref z.1
    split <;> rfl
  have em : ((L.map fun x => if x.2.key = y.2.key then (x.1, d) else x).map Prod.snd) = Cm.change y.2 d (L.map Prod.snd) := by
    unfold Cm.change
    rw [List.map_map, List.map_map]
    refine List.map_congr_left fun z _ => ?_
    show (if z.2.key = y.2.key then (z.1, d) else z).2 = if z.2.key = y.2.key then d else z.2
    split <;> rfl
  have p' : ((L.map fun x => if x.2.key = y.2.key then (x.1, d) else x).map Prod.snd).Perm cs := by
    rw [em]
    exact (x.perm.map _).trans p
  have mem : ∀ z ∈ (L.map fun x => if x.2.key = y.2.key then (x.1, d) else x), z.2 ∈ cs := fun z hz => p'.mem_iff.mp (List.mem_map.mpr ⟨z, hz, rfl⟩)
  have tk : ∀ z ∈ (L.map fun x => if x.2.key = y.2.key then (x.1, d) else x), ∀ k ∈ z.2.takers, k ∈ keysM s.members := fun z hz k hk => i.tk z.2 (mem z hz) k hk
  have n1 : h ≠ y.1 := by
    intro q
    rw [q, ey] at e
    have := Option.some.inj e
    injection this with _ _ h
    have h := congrArg List.length h
    exact absurd h (by show ¬ 3 = 2; decide)
  have n2 : rd ≠ y.1 := by
    obtain ⟨l, _, e2⟩ := x.hs.rooms.ex
    intro q
    rw [q, ey] at e2; cases e2
  have n3 : cl ≠ y.1 := by
    have e2 := x.hs.lst
    intro q
    rw [q, ey] at e2; cases e2
  refine ⟨⟨⟨dx, by rw [upd_ne n1]; exact e⟩, x.hs.rooms.other n2, by rw [upd_ne n3, er]; exact x.hs.lst, by rw [List.length_map]; exact x.hs.ok.few, fun z hz => ?_, tk, fun z hz => ?_⟩, p', i⟩
  · obtain ⟨q, hq, rfl⟩ := List.mem_map.mp hz
    by_cases e : q.2.key = y.2.key
    · have : q = y := Cm.key_injF (fun y : AC => y.2.key) x.ckL hq hy e
      subst this
      rw [if_pos e]
      exact ho
    · rw [if_neg e]
      exact (x.hs.ok.at_ q hq).other ey fun z => e (by rw [x.addr hq hy z])
  · have h8 : (keysM s.members).length ≤ 8 := by rw [keys_len]; exact x.inv.few
    have := nodup_few (i.tn z.2 (mem z hz)) (tk z hz)
    omega
theorem HouseAt.n_rd (x : HouseAt CH C H h rd cl s L) {y : AC} (hy : y ∈ L) : y.1 ≠ rd := by
  obtain ⟨dy, ty, ey, _⟩ := x.hs.ok.at_ y hy
  obtain ⟨l, _, e2⟩ := x.hs.rooms.ex
  intro q
  rw [q, e2] at ey; cases ey
theorem HouseAt.n_cl (x : HouseAt CH C H h rd cl s L) {y : AC} (hy : y ∈ L) : y.1 ≠ cl := by
  obtain ⟨dy, ty, ey, _⟩ := x.hs.ok.at_ y hy
  intro q
  rw [q, x.hs.lst] at ey; cases ey
end
end Cw
namespace Cw
open PySem PySem.Spec PyProof.Rows L2 Evl
open PySem.RefX (RefTxt)
open Cm (keysM setN isW hasB roomSl goesIn keptToo isFreeB withoutPlace movedBy allSl freeOf goalsOf GoalsOk keysOf leastOf isProof proofsOf boundsOf coversOf Inv Wn ckeys gl lessBy)
/-! ### words -/
theorem fresh_upd {H : Hp} {p q : Addr} {o : HO} (h : upd H p o q = none) : H q = none ∧ q ≠ p := by
  have : q ≠ p := by
    rintro rfl
    rw [upd_same] at h; cases h
  rw [upd_ne this] at h
  exact ⟨h, this⟩
theorem ToldC.done {CH C R : Addr} {H Hm : Hp} {h rd cl cl' : Addr} {r : Vbchaj.State × List Int} {Q : VK} {E : XK} {L L' : List AC} (k : ToldC CH C R H h rd cl L r Q E) (hn : ¬ Neg r.2) (x : HouseAt CH C Hm h rd cl' r.1 L') (hcl : cl' = cl ∨ H cl' = none) (f : Fr cl H Hm)
    (hb : ∀ q, Hm q = none → H q = none) (ha : ∀ t, Aw C Hm L' t → H t = none ∨ Aw C H L t) : RetL (zs r.2) Hm Q :=
  fun p H2 hp e2 h2 => k.yes hn p H2 cl' L' (hb p hp) (fun q => (by subst q; rw [x.hs.lst] at hp; cases hp)) h2 (x.ext e2) hcl (f.then e2) fun t a => ha t (aw_back e2 x.hs.ok.at_ a)
theorem q_bm {K : PySem.W.Frag} {σ : L2.St} {H : Hp} {to : TE} {ta : TA} {D : Ends} {tz : TS} {T : String} {r : V → List V → Hp → VK → Prop} {x : V} (ho : Ev to σ H x) (k : ∀ H1, Ex H H1 → tyV K T x H1 ∧ ta σ H1 fun xs H2 => r x xs H2 fun _ H3 => tz D σ H3) : tSeq (tDrop (tBM K T r to ta)) tz D σ H := ho H (Ex.refl H) _ k
theorem int_nV {z : Int} (h : 0 ≤ z) : V.int z = nV z.toNat := by
  show V.int z = V.int ((z.toNat : Nat) : Int)
  rw [Int.toNat_of_nonneg h]
def spC0 (CH C R : Addr) (f : Vbchaj.State → Vbchaj.State × List Int) : Sp := fun vs H Q E => ∃ (h rd cl : Addr) (s : Vbchaj.State) (L : List AC), vs = [.ref h] ∧ HouseAt CH C H h rd cl s L ∧ ToldC CH C R H h rd cl L (f s) Q E
def spC1 (CH C R : Addr) (f : Vbchaj.State → Int → Vbchaj.State × List Int) : Sp := fun vs H Q E => ∃ (h rd cl : Addr) (s : Vbchaj.State) (L : List AC) (z : Int), vs = [.ref h, .int z] ∧ HouseAt CH C H h rd cl s L ∧ ToldC CH C R H h rd cl L (f s z) Q E
def spC2 (CH C R : Addr) (f : Vbchaj.State → Int → Int → Vbchaj.State × List Int) : Sp := fun vs H Q E => ∃ (h rd cl : Addr) (s : Vbchaj.State) (L : List AC) (z y : Int), vs = [.ref h, .int z, .int y] ∧ HouseAt CH C H h rd cl s L ∧ ToldC CH C R H h rd cl L (f s z y) Q E
def spC1L (K : PySem.W.Frag) (CH C R : Addr) (f : Vbchaj.State → Int → List Int → Vbchaj.State × List Int) : Sp := fun vs H Q E => ∃ (h rd cl a : Addr) (s : Vbchaj.State) (L : List AC) (z : Int) (ns : List Int), vs = [.ref h, .int z, .ref a] ∧ HouseAt CH C H h rd cl s L ∧ SqL K H a (zs ns) ∧ ns.length ≤ 100 ∧ ToldC CH C R H h rd cl L (f s z ns) Q E
def spC2L (K : PySem.W.Frag) (CH C R : Addr) (f : Vbchaj.State → Int → Int → List Int → Vbchaj.State × List Int) : Sp := fun vs H Q E => ∃ (h rd cl a : Addr) (s : Vbchaj.State) (L : List AC) (z y : Int) (ns : List Int), vs = [.ref h, .int z, .int y, .ref a] ∧ HouseAt CH C H h rd cl s L ∧ SqL K H a (zs ns) ∧ ns.length ≤ 100 ∧ ToldC CH C R H h rd cl L (f s z y ns) Q E
section
variable {P : Program} {w : World} {K : PySem.W.Frag} {mg : Str → Option Value} {base : Heap} {C CH R fI : Addr}
theorem within_iff (z lo : Int) (hi : Nat) : Vbchaj.within z lo hi = true ↔ lo ≤ z ∧ z ≤ (hi : Int) := by
  unfold Vbchaj.within
  rw [Bool.and_eq_true, decide_eq_true_iff, decide_eq_true_iff]
theorem within_no {z lo : Int} {hi : Nat} (h : ¬ (lo ≤ z ∧ z ≤ (hi : Int))) : Vbchaj.within z lo hi = false := Bool.eq_false_iff.mpr fun q => h ((within_iff z lo hi).mp q)
theorem not_neg_nat (n : Nat) : ¬ Neg [(n : Int)] := not_neg fun z hz => by obtain rfl := List.mem_singleton.mp hz; omega
theorem not_neg_zero : ¬ Neg [(0 : Int)] := not_neg_nat 0
/-! ### put_member -/
def gMember (s : Vbchaj.State) (z y : Int) : Vbchaj.State × List Int := Vbchaj.step s (.member z y)
theorem gMember_eq (s : Vbchaj.State) (z y : Int) : gMember s z y = if (Vbchaj.keyed z && Vbchaj.within y 0 16) = false then (s, [-1]) else if (Vbchaj.memberAt s z.toNat).isSome = true then (s, [-2]) else if 8 ≤ s.members.length then (s, [-9]) else ({ s with members := Vbchaj.putMember ⟨z.toNat, y.toNat⟩ s.members }, [0]) := rfl
abbrev s_put_member : Stmt := top 62
abbrev N_put_member : List Str := ["house", "key", "room"]
abbrev P_put_member : List Str := ["house", "key", "room"]
theorem sc_put_member : FnScope N_put_member P_put_member (defScope s_put_member) := ⟨rfl, rfl, rfl, by decide +kernel, rfl, by decide +kernel, by decide +kernel⟩

theorem ok_put_member (TH : ClsH K CH) (TR : RefTxt K mg R fI) (TK : Cst mg) (B : Blt mg) (D : Dfn K mg "put_member" s_put_member P_put_member) (x_look_key : CalX P w K mg base 4 "look_key" (spKey R)) (x_look_range : CalX P w K mg base 3 "look_range" (spRange R)) :
    CalX P w K mg base 5 "put_member" (spC2 CH C R gMember) := by
  refine calX_of D sc_put_member (fun vs H Q E h => ?_) fun f cdv A outer s H vs Q E hr h => ?_
  · obtain ⟨a, b, c, d, e, g, i, rfl, _⟩ := h; rfl
  · refine ⟨_, (pss_cons (ps_expr (pe_x x_look_key hr (takes_of rfl rfl rfl rfl) (by exact (pa_cons (pv 1) pa_nil))))
  (pss_cons (ps_expr (pe_x x_look_range hr (takes_of rfl rfl rfl rfl) (by exact (pa_cons (pv 2) (pa_cons pe_int (pa_cons (pe_gi rfl TK.ROOM_MOST) pa_nil))))))
  (pss_cons (ps_if (pt_cmp (pc_din (hu_of hr) (pv 1) (pe_fld (pv 0) rfl))) (pss_one (ps_raiseRef rfl TR hr (takes_of rfl rfl rfl rfl) (by exact (pa_cons (pe_un un_neg pe_int) pa_nil)))) pss_nil)
  (pss_cons (ps_if (pt_cmpR op_eq (pe_callB call_lenD (by rfl) B.len PySem.boot_len (by exact (pa_cons (pe_fld (pv 0) rfl) pa_nil))) (pe_gi rfl TK.MEMBERS_MOST) (nomark _)) (pss_one (ps_raiseRef rfl TR hr (takes_of rfl rfl rfl rfl) (by exact (pa_cons (pe_un un_neg pe_int) pa_nil)))) pss_nil)
  (pss_cons (ps_dput (hu_of hr) (pe_fld (pv 0) rfl) (pv 1) (pv 2) rfl)
  (pss_one (ps_ret (pe_lst (by exact (pa_cons pe_int pa_nil)))))))))), ?_⟩
    obtain ⟨h, rd, cl, s, L, z, y, rfl, X, k⟩ := h
    have hf := gMember_eq s z y
    refine q_key (ev_var rfl) (fun hb => k.no _ (by rw [hf, if_pos (by rw [hb]; rfl)]) (by decide)) fun hz H0 e0 => ?_
    refine q_range (ev_var rfl) ev_c ev_c (fun hb => (k.no _ (by rw [hf, if_pos (by rw [within_no hb, Bool.and_false])]) (by decide)).go e0) fun hw H1 e1 => ?_
    have hw' : Vbchaj.within y 0 16 = true := (within_iff y 0 16).mpr hw
    rw [if_neg (by rw [hz, hw']; decide)] at hf
    have e01 := e0.trans e1
    have X1 := X.ext e01
    have hzp := (keyed_iff z).mp hz
    refine q_when (et_B (ev_din X1.hs.rooms (by omega) (ev_var rfl) (ev_rooms TH (ev_var rfl) X1.hs))) (fun hb H2 e2 => s_raise (ev_neg ev_c) ((k.no _ (by rw [hf, if_pos (by rw [Cm.memberAt_iff, hb])]) (by decide)).go (e01.trans e2))) (fun hb H2 e2 => ?_)
    rw [if_neg (by rw [Cm.memberAt_iff, hb]; decide)] at hf
    have hb := of_decide_eq_false hb
    have X2 := X1.ext e2
    have e02 := e01.trans e2
    refine q_when (et_op (ev_lenRooms X2.hs.rooms (ev_rooms TH (ev_var rfl) X2.hs)) ev_c (rv_eqI _ _)) (fun hb H3 e3 => s_raise (ev_neg ev_c) ((k.no _ (by rw [hf, if_pos (by have := of_decide_eq_true hb; omega)]) (by decide)).go (e02.trans e3))) (fun hb2 H3 e3 => ?_)
    have hb2 := of_decide_eq_false hb2
    have hfew := X.inv.few
    rw [if_neg (by omega)] at hf
    have X3 := X2.ext e3
    have e03 := e02.trans e3
    rw [int_nV (z := z) (by omega), int_nV (z := y) (by omega)]
    refine q_roomPut X3.hs.rooms (ev_var rfl) (ev_rooms TH (ev_var rfl) X3.hs) (ev_var rfl) fun H4 l e4 p hl => ?_
    have X4 := X3.ext e4
    have hn : z.toNat ∉ keysM l := fun q => hb ((p.map _).mem_iff.mp q)
    rw [putK_new l _ _ hn]
    have i := Cm.inv_member X.inv (m := ⟨z.toNat, y.toNat⟩) hb (by show z.toNat ≠ 0; omega) (by omega)
    have r : RoomsAt (upd H4 rd (.dK (rk (l ++ [⟨z.toNat, y.toNat⟩])))) rd (Vbchaj.putMember ⟨z.toNat, y.toNat⟩ s.members) :=
      ⟨i.lt, i.few, l ++ [⟨z.toNat, y.toNat⟩], (List.perm_append_comm.trans (p.cons _)).trans (Cm.putMember_perm _ _).symm, upd_same⟩
    have X5 := X4.rooms' r i
    have := k.done (by rw [hf]; exact not_neg_zero) (by rw [hf]; exact X5) (Or.inl rfl) ((Fr.of (e03.trans e4)).mut (Or.inr (Or.inr (Or.inr (by obtain ⟨l, _, q⟩ := X.hs.rooms.ex; exact ⟨_, q⟩))))) (fun q hq => fresh_back (e03.trans e4) (fresh_upd hq).1) fun t a => Or.inr (aw_back (e03.trans e4) X.hs.ok.at_ (aw_upd (fun y hy => X4.n_rd hy) a))
    rw [hf] at this
    exact s_retL (el_lst (ea_cons ev_c ea_nil) (by show 1 ≤ 100000; decide)) this
/-! ### put_client -/
theorem el_listOf {σ : L2.St} {H : Hp} {te : TE} {p : Addr} {ys : List V} (h : Ev te σ H (.ref p)) (hs : SqL K H p ys) : EvL (tCB (fun xs H Q => ∃ p ys, xs = [V.ref p] ∧ (SqL K H p ys ∨ SqT K H p ys) ∧ ∀ l, H l = none → Q (V.ref l) (upd H l (.lst ys))) (tCons te tNil)) σ H ys := fun H1 e Q q =>
  h H1 e _ fun H2 e2 => ⟨p, ys, rfl, Or.inl (ex_l (e.trans e2) hs), fun l hl => q l _ (fresh_back e2 hl) (e2.trans (Ex.new hl)) upd_same⟩
theorem mk_client {σ : L2.St} {H : Hp} {tk to tl : TE} {E : XK} {kk o : Nat} {ts : List Nat} {Q : VK} (hk : Ev tk σ H (nV kk)) (ho : Ev to σ H (nV o)) (hl : EvL tl σ H (nats ts))
    (go : ∀ x dx t H2, H x = none → H t = none → Ex H H2 → H2 x = some (.ins C dx (cF ⟨kk, o, ts⟩ t)) → H2 t = some (.lst (nats ts)) → Q (.ref x) H2) : tMake C (spCInit C) [] E (tCons tk (tCons to (tCons tl tNil))) σ H Q :=
  hk H (Ex.refl H) _ fun H1 e1 => ho H1 e1 _ fun H2 e2 => hl H2 (e1.trans e2) _ fun t H3 ht e3 h3 x dx hx hdx hne => by
    refine ⟨x, dx, t, nV kk, nV o, rfl, upd_same, fun H' h' keep => ⟨rfl, ?_⟩⟩
    have e03 := (e1.trans e2).trans e3
    have hux : upd H3 dx (HO.own x) x = none := by rw [upd_ne hne.symm]; exact hx
    refine go x dx t H' (fresh_back e03 hx) (fresh_back (e1.trans e2) ht) ?_ h' ?_
    · intro b u hb
      have hb3 := e03 _ _ hb
      have n1 : b ≠ x := ne_of_none hb3 hx
      have n2 : b ≠ dx := ne_of_none hb3 hdx
      exact keep b u (by rw [upd_ne n1, upd_ne n2]; exact hb3) n1
    · have n1 : t ≠ x := ne_of_none h3 hx
      have n2 : t ≠ dx := ne_of_none h3 hdx
      exact keep t _ (by rw [upd_ne n1, upd_ne n2]; exact h3) n1
def gClient (s : Vbchaj.State) (z y : Int) (l : List Int) : Vbchaj.State × List Int := Vbchaj.step s (.client z y l)
theorem gClient_eq (s : Vbchaj.State) (z y : Int) (l : List Int) : gClient s z y l = if (Vbchaj.keyed z && (Vbchaj.within y 0 1000000 && Vbchaj.listed l)) = false then (s, [-1]) else if Vbchaj.distinct (Vbchaj.nats l) = false then (s, [-3]) else if (Vbchaj.clientAt s z.toNat).isSome = true then (s, [-2])
    else if Vbchaj.known s l = false then (s, [-4]) else if 16 ≤ s.clients.length then (s, [-9]) else ({ s with clients := Vbchaj.putClient ⟨z.toNat, y.toNat, Vbchaj.nats l⟩ s.clients }, [0]) := rfl
abbrev s_put_client : Stmt := top 63
abbrev N_put_client : List Str := ["house", "key", "order", "takers"]
abbrev P_put_client : List Str := ["house", "key", "order", "takers"]
theorem sc_put_client : FnScope N_put_client P_put_client (defScope s_put_client) := ⟨rfl, rfl, rfl, by decide +kernel, rfl, by decide +kernel, by decide +kernel⟩

theorem ok_put_client (TH : ClsH K CH) (TC : ClsC K C) (TR : RefTxt K mg R fI) (TK : Cst mg) (B : Blt mg) (D : Dfn K mg "put_client" s_put_client P_put_client) (x_look_key : CalX P w K mg base 4 "look_key" (spKey R)) (x_look_range : CalX P w K mg base 3 "look_range" (spRange R))
    (x_look_list : CalX P w K mg base 5 "look_list" (spList K R)) (x_look_members : CalX P w K mg base 3 "look_members" (spLookM K CH C R)) (c_client_of : Mtd P w K mg base 1 CH "client_of" (spClientOf CH C)) (c_Client : Mkd P w K mg base 1 "Client" C (spCInit C)) :
    CalX P w K mg base 6 "put_client" (spC2L K CH C R gClient) := by
  refine calX_of D sc_put_client (fun vs H Q E h => ?_) fun f cdv A outer s H vs Q E hr h => ?_
  · obtain ⟨a, b, c, d, e, g, i, j, l, rfl, _⟩ := h; rfl
  · refine ⟨_, (pss_cons (ps_expr (pe_x x_look_key hr (takes_of rfl rfl rfl rfl) (by exact (pa_cons (pv 1) pa_nil))))
  (pss_cons (ps_expr (pe_x x_look_range hr (takes_of rfl rfl rfl rfl) (by exact (pa_cons (pv 2) (pa_cons pe_int (pa_cons (pe_gi rfl TK.ORDER_MOST) pa_nil))))))
  (pss_cons (ps_expr (pe_x x_look_list hr (takes_of rfl rfl rfl rfl) (by exact (pa_cons (pv 3) pa_nil))))
  (pss_cons (ps_if (pt_cmp (pc_notN (pe_mtd c_client_of hr (pv 0) (by exact (pa_cons (pv 1) pa_nil))))) (pss_one (ps_raiseRef rfl TR hr (takes_of rfl rfl rfl rfl) (by exact (pa_cons (pe_un un_neg pe_int) pa_nil)))) pss_nil)
  (pss_cons (ps_expr (pe_x x_look_members hr (takes_of rfl rfl rfl rfl) (by exact (pa_cons (pv 0) (pa_cons (pv 3) pa_nil)))))
  (pss_cons (ps_if (pt_cmpR op_eq (pe_callB call_len_seq (by rfl) B.len (by decide +kernel) (by exact (pa_cons (pe_fld (pv 0) rfl) pa_nil))) (pe_gi rfl TK.CLIENTS_MOST) (nomark _)) (pss_one (ps_raiseRef rfl TR hr (takes_of rfl rfl rfl rfl) (by exact (pa_cons (pe_un un_neg pe_int) pa_nil)))) pss_nil)
  (pss_cons (ps_expr (pe_bm PySem.F.plainAttrs_list PySem.F.slot_list_append PySem.F.type_list_append mt_append (pe_fld (pv 0) rfl) (by exact (pa_cons (pe_mkd c_Client hr (by exact (pa_cons (pv 1) (pa_cons (pv 2) (pa_cons (pe_callTy call_list_of (by rfl) B.list (by decide +kernel) (by exact (pa_cons (pv 3) pa_nil))) pa_nil))))) pa_nil))))
  (pss_one (ps_ret (pe_lst (by exact (pa_cons pe_int pa_nil)))))))))))), ?_⟩
    obtain ⟨h, rd, cl, a, s, L, z, y, ns, rfl, X, hs, hn, k⟩ := h
    have hf := gClient_eq s z y ns
    refine q_key (ev_var rfl) (fun hb => k.no _ (by rw [hf, if_pos (by rw [hb]; rfl)]) (by decide)) fun hz H0 e0 => ?_
    refine q_range (ev_var rfl) ev_c ev_c (fun hb => (k.no _ (by rw [hf, if_pos (by rw [within_no hb, Bool.false_and, Bool.and_false])]) (by decide)).go e0) fun hw H1 e1 => ?_
    have hw' : Vbchaj.within y 0 1000000 = true := (within_iff y 0 1000000).mpr hw
    have e01 := e0.trans e1
    have hl1 : Vbchaj.listed ns = true → (Vbchaj.keyed z && (Vbchaj.within y 0 1000000 && Vbchaj.listed ns)) = true := fun hl => by rw [hz, hw', hl]; rfl
    refine q_list (ev_var rfl) (ex_l e01 hs) hn (fun hb => (k.no _ (by rw [hf, if_pos (by rw [hb, Bool.and_false, Bool.and_false])]) (by decide)).go e01) (fun hl hb => (k.no _ (by rw [hf, if_neg (by rw [hl1 hl]; decide), if_pos hb]) (by decide)).go e01) fun hl hd H2 e2 => ?_
    rw [if_neg (by rw [hl1 hl]; decide), if_neg (by rw [hd]; decide)] at hf
    have e02 := e01.trans e2
    have X2 := X.ext e02
    have hzp := (keyed_iff z).mp hz
    refine q_when (et_B (ev_notN (ev_clientOf (ev_var rfl) (ev_var rfl) X2.hs))) (fun hb H3 e3 => s_raise (ev_neg ev_c) ((k.no _ (by
      rw [hf, if_pos]
      cases q : findL L z with
      | none => rw [q] at hb; cases hb
      | some x => rw [((X.find hz).2 x q).2.2.2]; rfl) (by decide)).go (e02.trans e3))) (fun hb H3 e3 => ?_)
    have hno : Vbchaj.clientAt s z.toNat = none := by
      refine (X.find hz).1 ?_
      cases q : findL L z with
      | none => rfl
      | some x => rw [q] at hb; cases hb
    rw [if_neg (by rw [hno]; decide)] at hf
    have e03 := e02.trans e3
    refine q_members (X.ext e03) (ev_var rfl) (ev_var rfl) (ex_l e03 hs) hn (listed_pos hl) (fun hb => (k.no _ (by rw [hf, if_pos hb]) (by decide)).go e03) fun hk H4 e4 => ?_
    rw [if_neg (by rw [hk]; decide)] at hf
    have e04 := e03.trans e4
    have X4 := X.ext e04
    refine q_when (et_op (ev_len (ev_clients TH (ev_var rfl) X4.hs) (sq_of X4.hs.lst)) ev_c (rv_eqI _ _)) (fun hb H5 e5 => s_raise (ev_neg ev_c) ((k.no _ (by rw [hf, if_pos (by have := of_decide_eq_true hb; rw [refs_len, X.lenL] at this; omega)]) (by decide)).go (e04.trans e5))) (fun hb2 H5 e5 => ?_)
    have hb2 := of_decide_eq_false hb2
    rw [refs_len, X.lenL] at hb2
    have hcf := X.inv.cf
    rw [if_neg (by omega)] at hf
    have e05 := e04.trans e5
    have X5 := X4.ext e5
    have hs5 := ex_l e05 hs
    rw [zs_nats (listed_pos hl)] at hs5
    rw [int_nV (z := z) (by omega), int_nV (z := y) (by omega)]
    refine q_bm (ev_clients TH (ev_var rfl) X5.hs) fun H6 e6 => ⟨Or.inl ⟨rfl, _, sq_of (e6 _ _ X5.hs.lst)⟩, ?_⟩
    have X6 := X5.ext e6
    refine mk_client (kk := z.toNat) (o := y.toNat) (ts := Vbchaj.nats ns) (ev_var rfl) (ev_var rfl) (el_listOf (ev_var rfl) (ex_l e6 hs5)) fun x dx t H7 hx ht e7 h1 h2 => ?_
    have X7 := X6.ext e7
    refine ⟨cl, refs L, .ref x, rfl, rfl, X7.hs.lst, ?_, ?_⟩
    · rw [refs_len]
      have := X.hs.ok.few
      show _ < 16777216
      omega
    · have nx : x ≠ cl := (ne_of_none X6.hs.lst hx).symm
      have nt : t ≠ cl := (ne_of_none X6.hs.lst ht).symm
      have hkeys : z.toNat ∉ ckeys s.clients := fun q => by
        obtain ⟨c, hc, e⟩ := List.mem_map.mp q
        have := Cm.find_key (fun c : Cli => c.key) X.inv.ck hc
        rw [e] at this
        unfold Vbchaj.clientAt at hno
        rw [this] at hno; cases hno
      have i := Cm.inv_client X.inv (c := ⟨z.toNat, y.toNat, Vbchaj.nats ns⟩) hkeys (known_mem hk) ((distinct_iff _).mp hd) (by omega)
      have er : refs L ++ [V.ref x] = refs (L ++ [(x, ⟨z.toNat, y.toNat, Vbchaj.nats ns⟩)]) := by unfold refs; rw [List.map_append]; rfl
      rw [er]
      have X8 := X7.list' (L' := L ++ [(x, ⟨z.toNat, y.toNat, Vbchaj.nats ns⟩)]) (fun q hq => ?_) (cs := Vbchaj.putClient ⟨z.toNat, y.toNat, Vbchaj.nats ns⟩ s.clients) ?_ i
      · have e07 := (e05.trans e6).trans e7
        refine (fun this => ?_ : RetL (zs (gClient s z y ns).2) _ Q → _) (k.done (by rw [hf]; exact not_neg_zero) (by rw [hf]; exact X8) (Or.inl rfl) ((Fr.of e07).mut (Or.inl rfl)) (fun q hq => fresh_back e07 (fresh_upd hq).1) fun t' a => ?_)
        · rw [hf] at this
          exact s_retL (el_lst (ea_cons ev_c ea_nil) (by show 1 ≤ 100000; decide)) this
        · obtain ⟨q, hq, dq, eq⟩ := a
          rcases List.mem_append.mp hq with hq | hq
          · exact Or.inr (aw_back e07 X.hs.ok.at_ (aw_upd (fun y hy => X7.n_cl hy) ⟨q, hq, dq, eq⟩))
          · obtain rfl := List.mem_singleton.mp hq
            have eq : upd H7 cl (HO.lst (refs (L ++ [(x, ⟨z.toNat, y.toNat, Vbchaj.nats ns⟩)]))) x = some (.ins C dq (cF ⟨z.toNat, y.toNat, Vbchaj.nats ns⟩ t')) := eq
            rw [upd_ne nx, h1] at eq
            have : t' = t := (ins_inj eq).symm
            subst this
            exact Or.inl (fresh_back (e05.trans e6) ht)
      · rcases List.mem_append.mp hq with hq | hq
        · exact (X7.hs.ok.at_ q hq).keep X7.hs.lst (fun _ _ _ => by simp) fun w => refs_ne hq (by injection w)
        · obtain rfl := List.mem_singleton.mp hq
          exact ⟨dx, t, by rw [upd_ne nx]; exact h1, by rw [upd_ne nt]; exact h2⟩
      · rw [List.map_append]
        exact (List.perm_append_comm.trans (X.perm.cons _)).trans (Cm.putClient_perm _ _).symm
/-! ### gone -/
def gGone (s : Vbchaj.State) (z : Int) : Vbchaj.State × List Int := Vbchaj.step s (.gone z)
theorem s_retPop {σ : L2.St} {H : Hp} {td ty : TE} {D : Ends} {d : Addr} {ms : List Mem} {m : Mem} (R : RoomsAt H d ms) (hm : m ∈ ms) (hd : Ev td σ H (.ref d)) (hk : Ev ty σ H (nV m.key))
    (go : ∀ H1 l, Ex H H1 → l.Perm ms → H1 d = some (.dK (rk l)) → RetL [nV m.room] (upd H1 d (.dK (dropK (rk l) (Sum.inl (m.key : Int))))) D.rt) : tRet (tLst (tCons (tDPop1 td ty) tNil)) D σ H := by
  obtain ⟨l, p, hl⟩ := R.ex
  refine hd H (Ex.refl H) _ fun H1 e1 => ⟨d, rfl, Or.inl ⟨_, Rd.of (e1 _ _ hl)⟩, hk H1 e1 _ fun H2 e2 => ⟨rk l, Sum.inl (m.key : Int), nV m.room, (e1.trans e2) _ _ hl, rfl, ?_, ?_⟩⟩
  · exact rk_get ((p.map _).nodup_iff.mpr (key_nodup R.lt)) (p.mem_iff.mpr hm)
  · exact ⟨(by show 1 ≤ 16777216; decide), fun q hq => go H2 l (e1.trans e2) p ((e1.trans e2) _ _ hl) q _ hq (Ex.new hq) upd_same⟩
theorem dropK_rk (l : List Mem) (k : Nat) : dropK (rk l) (Sum.inl (k : Int)) = rk (l.filter fun x => x.key != k) := by
  unfold dropK rk
  rw [List.filter_map]
  refine congrArg _ (List.filter_congr fun m _ => ?_)
  show decide ((Sum.inl (m.key : Int) : L2.Key) ≠ Sum.inl (k : Int)) = (m.key != k)
  rw [Bool.eq_iff_iff, decide_eq_true_iff, bne_iff_ne]
  constructor
  · exact fun h e => h (by rw [e])
  · exact fun h e => h (by have := Sum.inl.inj e; omega)
abbrev s_gone : Stmt := top 64
abbrev N_gone : List Str := ["house", "key", "client"]
abbrev P_gone : List Str := ["house", "key"]
theorem sc_gone : FnScope N_gone P_gone (defScope s_gone) := ⟨rfl, rfl, rfl, by decide +kernel, rfl, by decide +kernel, by decide +kernel⟩

theorem ok_gone (TH : ClsH K CH) (TC : ClsC K C) (TR : RefTxt K mg R fI) (B : Blt mg) (D : Dfn K mg "gone" s_gone P_gone) (x_look_key : CalX P w K mg base 4 "look_key" (spKey R)) (x_look_members : CalX P w K mg base 3 "look_members" (spLookM K CH C R)) :
    CalX P w K mg base 5 "gone" (spC1 CH C R gGone) := by
  refine calX_of D sc_gone (fun vs H Q E h => ?_) fun f cdv A outer s H vs Q E hr h => ?_
  · obtain ⟨a, b, c, d, e, g, rfl, _⟩ := h; rfl
  · refine ⟨_, (pss_cons (ps_expr (pe_x x_look_key hr (takes_of rfl rfl rfl rfl) (by exact (pa_cons (pv 1) pa_nil))))
  (pss_cons (ps_expr (pe_x x_look_members hr (takes_of rfl rfl rfl rfl) (by exact (pa_cons (pv 0) (pa_cons (pe_lst (by exact (pa_cons (pv 1) pa_nil))) pa_nil)))))
  (pss_cons (ps_if (pt_val (pe_callB (cr_any rfl) (by rfl) B.any (by decide +kernel) (by exact (pa_cons (pe_lc (own := [("client", 2)]) (g := gName 2) rfl sc_gone.nd (pi_list (pe_fld (pv 0) rfl)) (blkOk_by (N := N_gone) (sc := defScope s_gone) (by decide +kernel)) (fun _ _ _ _ _ => by exact (pg_name (i := 2) sc_gone.nd rfl (Or.inl rfl))) (fun _ _ _ _ _ => by exact pts_nil) (fun _ _ _ _ _ => by exact (pe_cmpR (op_inK (K := K) rfl) (pv 1) (pe_fldK (K := K) rfl (pv 2) rfl) (by rfl)))) pa_nil)))) (pss_one (ps_raiseRef rfl TR hr (takes_of rfl rfl rfl rfl) (by exact (pa_cons (pe_un un_neg pe_int) pa_nil)))) pss_nil)
  (pss_one (ps_ret (pe_lst (by exact (pa_cons (pe_dpop1 (pe_fld (pv 0) rfl) (pv 1) ⟨by rfl, by rfl, by rfl, by rfl⟩) pa_nil)))))))), ?_⟩
    obtain ⟨h, rd, cl, s, L, z, rfl, X, k⟩ := h
    refine q_key (ev_var rfl) (fun hb => k.no _ (congrArg Prod.snd (onM1 hb)) (by decide)) fun hz H0 e0 => ?_
    refine q_member (X.ext e0) (ev_var rfl) (ev_var rfl) hz (fun hb => (k.no _ (congrArg Prod.snd (onM4 hz hb)) (by decide)).go e0) fun m hm H1 e1 => ?_
    have e01 := e0.trans e1
    have X1 := X.ext e01
    obtain ⟨m1, m2, m3, m4⟩ := X.member hz hm
    have hf : gGone s z = if (s.clients.any fun c => c.takers.contains m.key) = true then (s, [-7]) else ({ s with members := s.members.filter fun x => x.key != m.key }, [(m.room : Int)]) := onM0 hz hm
    have hany : (L.any fun x => decide (m.key ∈ x.2.takers)) = s.clients.any fun c => c.takers.contains m.key := by
      have h1 : (L.any fun x => decide (m.key ∈ x.2.takers)) = (L.map Prod.snd).any fun c => c.takers.contains m.key := by
        rw [List.any_map]
        congr 1
        funext x
        show _ = x.2.takers.contains m.key
        rw [List.contains_eq_mem]
      rw [h1, Bool.eq_iff_iff, List.any_eq_true, List.any_eq_true]
      exact ⟨fun ⟨c, hc, q⟩ => ⟨c, X.perm.mem_iff.mp hc, q⟩, fun ⟨c, hc, q⟩ => ⟨c, X.perm.mem_iff.mpr hc, q⟩⟩
    rw [m3]
    refine q_when (b := L.any fun x => decide (m.key ∈ x.2.takers)) (et_B (ev_anyN ?_)) (fun hb H2 e2 => s_raise (ev_neg ev_c) ((k.no _ (by rw [hf, if_pos (by rw [← hany, hb])]) (by decide)).go (e01.trans e2))) (fun hb H2 e2 => ?_)
    · refine el_to (el_lcM L (fun x => V.ref x.1) (fun x => V.bl (decide (m.key ∈ x.2.takers))) (fun _ => true) (ev_clients TH (ev_var rfl) X1.hs) (sq_of X1.hs.lst) (by have := X.hs.ok.few; omega) (fun _ => rfl) (fun _ _ _ _ => et_yes) fun x hx H2 e2 _ => ?_) (by rw [filter_true])
      obtain ⟨t, ht1, ht2⟩ := ev_takers (K := K) (te := tVar 2) (σ := [some (.ref h), some (nV m.key), some (.ref x.1)]) TC (ev_var rfl) ((X1.hs.ext e2).ok.at_ x hx)
      exact ev_inN (ev_var rfl) ht2 (sq_of ht1)
    · rw [hany] at hb
      rw [if_neg (by rw [hb]; decide)] at hf
      have X2 := X1.ext e2
      have e02 := e01.trans e2
      refine s_retPop X2.hs.rooms m1 (ev_rooms TH (ev_var rfl) X2.hs) (ev_var rfl) fun H3 l e3 p hl => ?_
      rw [dropK_rk]
      have X3 := X2.ext e3
      have i := Cm.inv_gone X.inv hb
      have r : RoomsAt (upd H3 rd (.dK (rk (l.filter fun x => x.key != m.key)))) rd (s.members.filter fun x => x.key != m.key) := ⟨i.lt, i.few, _, p.filter _, upd_same⟩
      have X4 := X3.rooms' r i
      have e03 := e02.trans e3
      have := k.done (by rw [hf]; exact not_neg_nat _) (by rw [hf]; exact X4) (Or.inl rfl) ((Fr.of e03).mut (Or.inr (Or.inr (Or.inr (by obtain ⟨l, _, q⟩ := X.hs.rooms.ex; exact ⟨_, q⟩))))) (fun q hq => fresh_back e03 (fresh_upd hq).1) fun t a => Or.inr (aw_back e03 X.hs.ok.at_ (aw_upd (fun y hy => X3.n_rd hy) a))
      rw [hf] at this
      exact this
/-! ### drop -/
def gDrop (s : Vbchaj.State) (z : Int) : Vbchaj.State × List Int := Vbchaj.step s (.drop z)
abbrev s_drop : Stmt := top 65
abbrev N_drop : List Str := ["house", "key"]
abbrev P_drop : List Str := ["house", "key"]
theorem sc_drop : FnScope N_drop P_drop (defScope s_drop) := ⟨rfl, rfl, rfl, by decide +kernel, rfl, by decide +kernel, by decide +kernel⟩

theorem ok_drop (TH : ClsH K CH) (TQ : CmpK K C) (D : Dfn K mg "drop" s_drop P_drop) (x_look_key : CalX P w K mg base 4 "look_key" (spKey R)) (x_known_client : CalX P w K mg base 3 "known_client" (spKnown CH C R)) :
    CalX P w K mg base 5 "drop" (spC1 CH C R gDrop) := by
  refine calX_of D sc_drop (fun vs H Q E h => ?_) fun f cdv A outer s H vs Q E hr h => ?_
  · obtain ⟨a, b, c, d, e, g, rfl, _⟩ := h; rfl
  · refine ⟨_, (pss_cons (ps_expr (pe_x x_look_key hr (takes_of rfl rfl rfl rfl) (by exact (pa_cons (pv 1) pa_nil))))
  (pss_cons (ps_expr (pe_bm PySem.F.plainAttrs_list PySem.F.slot_list_remove PySem.F.type_list_remove (mt_removeO TQ hr) (pe_fld (pv 0) rfl) (by exact (pa_cons (pe_x x_known_client hr (takes_of rfl rfl rfl rfl) (by exact (pa_cons (pv 0) (pa_cons (pv 1) pa_nil)))) pa_nil))))
  (pss_one (ps_ret (pe_lst (by exact (pa_cons pe_int pa_nil))))))), ?_⟩
    obtain ⟨h, rd, cl, s, L, z, rfl, X, k⟩ := h
    refine q_key (ev_var rfl) (fun hb => k.no _ (congrArg Prod.snd (onC1 hb)) (by decide)) fun hz H0 e0 => ?_
    have X0 := X.ext e0
    refine q_bm (ev_clients TH (ev_var rfl) X0.hs) fun H1 e1 => ⟨Or.inl ⟨rfl, _, sq_of (e1 _ _ X0.hs.lst)⟩, ?_⟩
    have X1 := X0.ext e1
    have e01 := e0.trans e1
    refine as_v (P := fun vs H1 => spKnown CH C R vs H1 _ _) (ev_var rfl) (as_v (ev_var rfl) (as_nil fun H2 e2 => ⟨h, rd, cl, s.members, L, z, rfl, X1.hs.ext e2, fun q => (k.no _ (congrArg Prod.snd (onC4 hz ((X.find hz).1 q))) (by decide)).go (e01.trans e2), fun y hy H3 e3 => ?_⟩)) H1 (Ex.refl H1) _ fun _ _ _ p => p
    obtain ⟨hyL, hyz, hyk, hc⟩ := (X.find hz).2 y hy
    have hf : gDrop s z = ({ s with clients := s.clients.filter fun x => x.key != y.2.key }, [0]) := onC0 hz hc
    have e03 := e01.trans (e2.trans e3)
    have X3 := X.ext e03
    obtain ⟨j, hj, hjy⟩ := List.mem_iff_getElem.mp hyL
    have hjs : L[j]? = some y := by rw [List.getElem?_eq_getElem hj, hjy]
    refine ⟨cl, L, y, j, rfl, rfl, X3.hs.lst, X3.hs.ok.few, X3.hs.ok.at_, hjs, fun i q hi hq e => ?_, ?_⟩
    · have hqL := List.mem_of_getElem? hq
      have := X.addr hqL hyL e
      subst this
      have nd : L.Nodup := List.Pairwise.of_map (fun y : AC => y.2.key) (fun a b hab e => hab (by rw [e])) X.ckL
      obtain ⟨hi', e'⟩ := List.getElem?_eq_some_iff.mp hq
      exact List.pairwise_iff_getElem.mp nd i j hi' hj hi (by rw [e', hjy])
    · have hp : L.Perm (y :: L.eraseIdx j) := by
        rw [List.eraseIdx_eq_take_drop_succ]
        have e : L = L.take j ++ y :: L.drop (j + 1) := by
          rw [← hjy, List.getElem_cons_drop, List.take_append_drop]
        conv => lhs; rw [e]
        exact List.perm_middle
      have hp2 : ((L.eraseIdx j).map Prod.snd).Perm (s.clients.filter fun x => x.key != y.2.key) :=
        List.Perm.cons_inv (((hp.map Prod.snd).symm.trans X.perm).trans (Cm.split_perm X.inv.ck (X.memc hyL)))
      have i := Cm.inv_sub X.inv (l := s.clients.filter fun x => x.key != y.2.key) List.filter_sublist
      have X4 := X3.list' (L' := L.eraseIdx j) (fun q hq => (X3.hs.ok.at_ q (List.mem_of_mem_eraseIdx hq)).keep X3.hs.lst (fun _ _ _ => by simp) fun w => refs_ne hyL (by injection w)) hp2 i
      have := k.done (by rw [hf]; exact not_neg_zero) (by rw [hf]; exact X4) (Or.inl rfl) ((Fr.of e03).mut (Or.inl rfl)) (fun q hq => fresh_back e03 (fresh_upd hq).1) fun t a => Or.inr (aw_back e03 X.hs.ok.at_ (aw_sub (fun y hy => List.mem_of_mem_eraseIdx hy) (aw_upd (fun y hy => X3.n_cl (List.mem_of_mem_eraseIdx hy)) a)))
      rw [hf] at this
      exact s_retL (el_lst (ea_cons ev_c ea_nil) (by show 1 ≤ 100000; decide)) this
end
end Cw
namespace Cw
open PySem PySem.Spec PyProof.Rows L2 Evl
open PySem.RefX (RefTxt)
open Cm (keysM setN isW hasB roomSl goesIn keptToo isFreeB withoutPlace movedBy allSl freeOf goalsOf GoalsOk keysOf leastOf isProof proofsOf boundsOf coversOf Inv Wn ckeys gl lessBy)
/-- a.f = a new list -/
theorem q_fldL {K : PySem.W.Frag} {σ : L2.St} {H : Hp} {ta tv : TE} {D : Ends} {tz : TS} {a : Addr} {f : Str} {xs : List V} (h : EvL tv σ H xs) (ha : Ev ta σ H (.ref a))
    (k : ∀ p H1, H p = none → Ex H H1 → H1 p = some (.lst xs) → ∃ C dx fs, H1 a = some (.ins C dx fs) ∧ Cls K C ∧ NoAttr K C f ∧ fs.length < 1000 ∧ tz D σ (upd H1 a (.ins C dx (putF f (.ref p) fs)))) : tSeq (sFld K ta tv f) tz D σ H :=
  h H (Ex.refl H) _ fun p H1 hp e1 h1 => ha H1 e1 _ fun H2 e2 => by
    obtain ⟨C, dx, fs, q⟩ := k p H2 hp (e1.trans e2) (e2 _ _ h1)
    exact ⟨a, C, dx, fs, rfl, q⟩
theorem aw_client {CH C : Addr} {H : Hp} {h rd cl : Addr} {s : Vbchaj.State} {L : List AC} (x : HouseAt CH C H h rd cl s L) {y : AC} (hy : y ∈ L) {d : Cli} {dx t0 t : Addr}
    (a : Aw C (upd H y.1 (.ins C dx (cF d t0))) (L.map fun x => if x.2.key = y.2.key then (x.1, d) else x) t) : t = t0 ∨ Aw C H L t := by
  obtain ⟨q', hq', dq, eq⟩ := a
  obtain ⟨q, hq, rfl⟩ := List.mem_map.mp hq'
  by_cases e : q.2.key = y.2.key
  · have : q = y := Cm.key_injF (fun y : AC => y.2.key) x.ckL hq hy e
    subst this
    rw [if_pos e] at eq
    have eq : upd H q.1 (HO.ins C dx (cF d t0)) q.1 = some (.ins C dq (cF d t)) := eq
    rw [upd_same] at eq
    exact Or.inl (ins_inj eq).symm
  · rw [if_neg e] at eq
    rw [upd_ne fun z => e (by rw [x.addr hq hy z])] at eq
    exact Or.inr ⟨q, hq, dq, eq⟩
section
variable {P : Program} {w : World} {K : PySem.W.Frag} {mg : Str → Option Value} {base : Heap} {C CH R fI : Addr}
/-! ### change_room -/
def gRoom (s : Vbchaj.State) (z y : Int) : Vbchaj.State × List Int := Vbchaj.step s (.room z y)
theorem gRoom_eq (s : Vbchaj.State) (z y : Int) : gRoom s z y = if Vbchaj.within y 0 16 = false then (s, [-1]) else Vbchaj.onMember s z fun m => ({ s with members := setRoom s.members m.key y.toNat }, [(m.room : Int)]) := rfl
theorem room1 {s : Vbchaj.State} {z y : Int} (h : Vbchaj.keyed z = false) : (gRoom s z y).2 = [-1] := by
  rw [gRoom_eq]
  split
  · rfl
  · rw [onM1 h]
abbrev s_change_room : Stmt := top 66
abbrev N_change_room : List Str := ["house", "key", "room", "was"]
abbrev P_change_room : List Str := ["house", "key", "room"]
theorem sc_change_room : FnScope N_change_room P_change_room (defScope s_change_room) := ⟨rfl, rfl, rfl, by decide +kernel, rfl, by decide +kernel, by decide +kernel⟩

theorem ok_change_room (TH : ClsH K CH) (TK : Cst mg) (D : Dfn K mg "change_room" s_change_room P_change_room) (x_look_key : CalX P w K mg base 4 "look_key" (spKey R)) (x_look_range : CalX P w K mg base 3 "look_range" (spRange R)) (x_look_members : CalX P w K mg base 3 "look_members" (spLookM K CH C R)) :
    CalX P w K mg base 5 "change_room" (spC2 CH C R gRoom) := by
  refine calX_of D sc_change_room (fun vs H Q E h => ?_) fun f cdv A outer s H vs Q E hr h => ?_
  · obtain ⟨a, b, c, d, e, g, i, rfl, _⟩ := h; rfl
  · refine ⟨_, (pss_cons (ps_expr (pe_x x_look_key hr (takes_of rfl rfl rfl rfl) (by exact (pa_cons (pv 1) pa_nil))))
  (pss_cons (ps_expr (pe_x x_look_range hr (takes_of rfl rfl rfl rfl) (by exact (pa_cons (pv 2) (pa_cons pe_int (pa_cons (pe_gi rfl TK.ROOM_MOST) pa_nil))))))
  (pss_cons (ps_expr (pe_x x_look_members hr (takes_of rfl rfl rfl rfl) (by exact (pa_cons (pv 0) (pa_cons (pe_lst (by exact (pa_cons (pv 1) pa_nil))) pa_nil)))))
  (pss_cons (ps_set (i := 3) sc_change_room.nd rfl (Or.inl rfl) (pe_dget (hu_of hr) (pe_fld (pv 0) rfl) (pv 1) (fun _ _ => rfl)))
  (pss_cons (ps_dput (hu_of hr) (pe_fld (pv 0) rfl) (pv 1) (pv 2) rfl)
  (pss_one (ps_ret (pe_lst (by exact (pa_cons (pv 3) pa_nil)))))))))), ?_⟩
    obtain ⟨h, rd, cl, s, L, z, y, rfl, X, k⟩ := h
    have hf := gRoom_eq s z y
    refine q_key (ev_var rfl) (fun hb => k.no _ (room1 hb) (by decide)) fun hz H0 e0 => ?_
    refine q_range (ev_var rfl) ev_c ev_c (fun hb => (k.no _ (by rw [hf, if_pos (within_no hb)]) (by decide)).go e0) fun hw H1 e1 => ?_
    have hw' : Vbchaj.within y 0 16 = true := (within_iff y 0 16).mpr hw
    rw [if_neg (by rw [hw']; decide)] at hf
    have e01 := e0.trans e1
    refine q_member (X.ext e01) (ev_var rfl) (ev_var rfl) hz (fun hb => (k.no _ (by rw [hf, onM4 hz hb]) (by decide)).go e01) fun m hm H2 e2 => ?_
    rw [onM0 hz hm] at hf
    have e02 := e01.trans e2
    have X2 := X.ext e02
    obtain ⟨m1, m2, m3, m4⟩ := X.member hz hm
    rw [m3, int_nV (z := y) (by omega)]
    refine q_asg (ev_room X2.hs.rooms m1 (ev_rooms TH (ev_var rfl) X2.hs) (ev_var rfl)) fun H3 e3 => ?_
    have X3 := X2.ext e3
    have e03 := e02.trans e3
    refine q_roomPut X3.hs.rooms (ev_var rfl) (ev_rooms TH (ev_var rfl) X3.hs) (ev_var rfl) fun H4 l e4 p hl => ?_
    have X4 := X3.ext e4
    have e04 := e03.trans e4
    have r := X4.hs.rooms.set (k := m.key) (v := y.toNat) (H1 := H4) (List.mem_map.mpr ⟨m, m1, rfl⟩) p
    have i := Cm.inv_rooms X.inv (keys_setRoom s.members m.key y.toNat)
    have X5 := X4.rooms' r i
    have := k.done (by rw [hf]; exact not_neg_nat _) (by rw [hf]; exact X5) (Or.inl rfl) ((Fr.of e04).mut (Or.inr (Or.inr (Or.inr (by obtain ⟨l, _, q⟩ := X.hs.rooms.ex; exact ⟨_, q⟩))))) (fun q hq => fresh_back e04 (fresh_upd hq).1) fun t a => Or.inr (aw_back e04 X.hs.ok.at_ (aw_upd (fun y hy => X4.n_rd hy) a))
    rw [hf] at this
    exact s_retL (el_lst (ea_cons (ev_var rfl) ea_nil) (by show 1 ≤ 100000; decide)) this
/-! ### change_order -/
def gOrder (s : Vbchaj.State) (z y : Int) : Vbchaj.State × List Int := Vbchaj.step s (.order z y)
theorem gOrder_eq (s : Vbchaj.State) (z y : Int) : gOrder s z y = if Vbchaj.within y 0 1000000 = false then (s, [-1]) else Vbchaj.onClient s z fun c => ({ s with clients := Vbchaj.putClient { c with order := y.toNat } (s.clients.filter fun x => x.key != c.key) }, [(c.order : Int)]) := rfl
theorem order1 {s : Vbchaj.State} {z y : Int} (h : Vbchaj.keyed z = false) : (gOrder s z y).2 = [-1] := by
  rw [gOrder_eq]
  split
  · rfl
  · rw [onC1 h]
theorem put_order (c : Cli) (t : Addr) (o : Nat) : putF ("order" : Str) (nV o) (cF c t) = cF { c with order := o } t := (put_past (by decide +kernel)).trans (congrArg _ put_here)
theorem put_takers (c : Cli) (t u : Addr) (l : List Nat) : putF ("takers" : Str) (V.ref u) (cF c t) = cF { c with takers := l } u := (put_past (by decide +kernel)).trans (congrArg _ ((put_past (by decide +kernel)).trans (congrArg _ put_here)))
abbrev s_change_order : Stmt := top 67
abbrev N_change_order : List Str := ["house", "key", "order", "client", "was"]
abbrev P_change_order : List Str := ["house", "key", "order"]
theorem sc_change_order : FnScope N_change_order P_change_order (defScope s_change_order) := ⟨rfl, rfl, rfl, by decide +kernel, rfl, by decide +kernel, by decide +kernel⟩

theorem ok_change_order (TC : ClsC K C) (TK : Cst mg) (D : Dfn K mg "change_order" s_change_order P_change_order) (x_look_key : CalX P w K mg base 4 "look_key" (spKey R)) (x_look_range : CalX P w K mg base 3 "look_range" (spRange R)) (x_known_client : CalX P w K mg base 3 "known_client" (spKnown CH C R)) :
    CalX P w K mg base 5 "change_order" (spC2 CH C R gOrder) := by
  refine calX_of D sc_change_order (fun vs H Q E h => ?_) fun f cdv A outer s H vs Q E hr h => ?_
  · obtain ⟨a, b, c, d, e, g, i, rfl, _⟩ := h; rfl
  · refine ⟨_, (pss_cons (ps_expr (pe_x x_look_key hr (takes_of rfl rfl rfl rfl) (by exact (pa_cons (pv 1) pa_nil))))
  (pss_cons (ps_expr (pe_x x_look_range hr (takes_of rfl rfl rfl rfl) (by exact (pa_cons (pv 2) (pa_cons pe_int (pa_cons (pe_gi rfl TK.ORDER_MOST) pa_nil))))))
  (pss_cons (ps_set (i := 3) sc_change_order.nd rfl (Or.inl rfl) (pe_x x_known_client hr (takes_of rfl rfl rfl rfl) (by exact (pa_cons (pv 0) (pa_cons (pv 1) pa_nil)))))
  (pss_cons (ps_set (i := 4) sc_change_order.nd rfl (Or.inl rfl) (pe_fld (pv 3) rfl))
  (pss_cons (ps_fld (pv 3) (pv 2) rfl)
  (pss_one (ps_ret (pe_lst (by exact (pa_cons (pv 4) pa_nil)))))))))), ?_⟩
    obtain ⟨h, rd, cl, s, L, z, y, rfl, X, k⟩ := h
    have hf := gOrder_eq s z y
    refine q_key (ev_var rfl) (fun hb => k.no _ (order1 hb) (by decide)) fun hz H0 e0 => ?_
    refine q_range (ev_var rfl) ev_c ev_c (fun hb => (k.no _ (by rw [hf, if_pos (within_no hb)]) (by decide)).go e0) fun hw H1 e1 => ?_
    have hw' : Vbchaj.within y 0 1000000 = true := (within_iff y 0 1000000).mpr hw
    rw [if_neg (by rw [hw']; decide)] at hf
    have e01 := e0.trans e1
    refine q_known (X.ext e01) (ev_var rfl) (ev_var rfl) hz (fun hb => (k.no _ (by rw [hf, onC4 hz hb]) (by decide)).go e01) fun x hx hxz hxk hc H2 e2 => ?_
    rw [onC0 hz hc] at hf
    have e02 := e01.trans e2
    have X2 := X.ext e02
    rw [int_nV (z := y) (by omega)]
    refine q_asg (ev_order TC (ev_var rfl) (X2.hs.ok.at_ x hx)) fun H3 e3 => ?_
    have X3 := X2.ext e3
    have e03 := e02.trans e3
    obtain ⟨dx, t, h1, h2⟩ := X3.hs.ok.at_ x hx
    refine ⟨_, rfl, _, rfl, x.1, C, dx, cF x.2 t, rfl, h1, TC.cl, TC.nO, (by show 3 < 1000; decide), ?_⟩
    rw [put_order]
    have nt : t ≠ x.1 := fun e => by rw [e, h1] at h2; cases h2
    have p : (Cm.change x.2 { x.2 with order := y.toNat } s.clients).Perm (Vbchaj.putClient { x.2 with order := y.toNat } (s.clients.filter fun q => q.key != x.2.key)) :=
      (Cm.change_perm X.inv.ck (X.memc hx)).trans (Cm.putClient_perm _ _).symm
    have X4 := X3.client' hx (d := { x.2 with order := y.toNat }) (o := .ins C dx (cF { x.2 with order := y.toNat } t)) rfl ⟨dx, t, upd_same, by rw [upd_ne nt]; exact h2⟩ p (Cm.inv_order X.inv (X.memc hx) y.toNat)
    have := k.done (by rw [hf]; exact not_neg_nat _) (by rw [hf]; exact X4) (Or.inl rfl) ((Fr.of e03).mut (Or.inr (Or.inr (Or.inl (by obtain ⟨dx, t, q, _⟩ := X.hs.ok.at_ x hx; exact ⟨_, _, _, q⟩))))) (fun q hq => fresh_back e03 (fresh_upd hq).1) fun t' a => Or.inr (aw_back e03 X.hs.ok.at_ ((aw_client X3 hx a).elim (fun z => ⟨x, hx, dx, by rw [z]; exact h1⟩) id))
    rw [hf] at this
    exact s_retL (el_lst (ea_cons (ev_var rfl) ea_nil) (by show 1 ≤ 100000; decide)) this
/-! ### change_takers -/
def gTakers (s : Vbchaj.State) (z : Int) (l : List Int) : Vbchaj.State × List Int := Vbchaj.step s (.takers z l)
theorem gTakers_eq (s : Vbchaj.State) (z : Int) (l : List Int) : gTakers s z l = if (Vbchaj.keyed z && Vbchaj.listed l) = false then (s, [-1]) else if Vbchaj.distinct (Vbchaj.nats l) = false then (s, [-3]) else if Vbchaj.known s l = false then (s, [-4])
    else Vbchaj.onClient s z fun c => ({ s with clients := s.clients.map fun x => if x.key = c.key then { x with takers := Vbchaj.nats l } else x }, [0]) := rfl
abbrev s_change_takers : Stmt := top 68
abbrev N_change_takers : List Str := ["house", "key", "takers", "client"]
abbrev P_change_takers : List Str := ["house", "key", "takers"]
theorem sc_change_takers : FnScope N_change_takers P_change_takers (defScope s_change_takers) := ⟨rfl, rfl, rfl, by decide +kernel, rfl, by decide +kernel, by decide +kernel⟩

theorem ok_change_takers (TC : ClsC K C) (B : Blt mg) (D : Dfn K mg "change_takers" s_change_takers P_change_takers) (x_look_key : CalX P w K mg base 4 "look_key" (spKey R)) (x_look_list : CalX P w K mg base 5 "look_list" (spList K R)) (x_look_members : CalX P w K mg base 3 "look_members" (spLookM K CH C R))
    (x_known_client : CalX P w K mg base 3 "known_client" (spKnown CH C R)) : CalX P w K mg base 6 "change_takers" (spC1L K CH C R gTakers) := by
  refine calX_of D sc_change_takers (fun vs H Q E h => ?_) fun f cdv A outer s H vs Q E hr h => ?_
  · obtain ⟨a, b, c, d, e, g, i, j, rfl, _⟩ := h; rfl
  · refine ⟨_, (pss_cons (ps_expr (pe_x x_look_key hr (takes_of rfl rfl rfl rfl) (by exact (pa_cons (pv 1) pa_nil))))
  (pss_cons (ps_expr (pe_x x_look_list hr (takes_of rfl rfl rfl rfl) (by exact (pa_cons (pv 2) pa_nil))))
  (pss_cons (ps_expr (pe_x x_look_members hr (takes_of rfl rfl rfl rfl) (by exact (pa_cons (pv 0) (pa_cons (pv 2) pa_nil)))))
  (pss_cons (ps_set (i := 3) sc_change_takers.nd rfl (Or.inl rfl) (pe_x x_known_client hr (takes_of rfl rfl rfl rfl) (by exact (pa_cons (pv 0) (pa_cons (pv 1) pa_nil)))))
  (pss_cons (ps_fld (pv 3) (pe_callTy call_list_of (by rfl) B.list (by decide +kernel) (by exact (pa_cons (pv 2) pa_nil))) rfl)
  (pss_one (ps_ret (pe_lst (by exact (pa_cons pe_int pa_nil)))))))))), ?_⟩
    obtain ⟨h, rd, cl, a, s, L, z, ns, rfl, X, hs, hn, k⟩ := h
    have hf := gTakers_eq s z ns
    refine q_key (ev_var rfl) (fun hb => k.no _ (by rw [hf, if_pos (by rw [hb]; rfl)]) (by decide)) fun hz H0 e0 => ?_
    have hl1 : Vbchaj.listed ns = true → (Vbchaj.keyed z && Vbchaj.listed ns) = true := fun hl => by rw [hz, hl]; rfl
    refine q_list (ev_var rfl) (ex_l e0 hs) hn (fun hb => (k.no _ (by rw [hf, if_pos (by rw [hb, Bool.and_false])]) (by decide)).go e0) (fun hl hb => (k.no _ (by rw [hf, if_neg (by rw [hl1 hl]; decide), if_pos hb]) (by decide)).go e0) fun hl hd H1 e1 => ?_
    rw [if_neg (by rw [hl1 hl]; decide), if_neg (by rw [hd]; decide)] at hf
    have e01 := e0.trans e1
    refine q_members (X.ext e01) (ev_var rfl) (ev_var rfl) (ex_l e01 hs) hn (listed_pos hl) (fun hb => (k.no _ (by rw [hf, if_pos hb]) (by decide)).go e01) fun hk H2 e2 => ?_
    rw [if_neg (by rw [hk]; decide)] at hf
    have e02 := e01.trans e2
    refine q_known (X.ext e02) (ev_var rfl) (ev_var rfl) hz (fun hb => (k.no _ (by rw [hf, onC4 hz hb]) (by decide)).go e02) fun x hx hxz hxk hc H3 e3 => ?_
    rw [onC0 hz hc] at hf
    have e03 := e02.trans e3
    have hs3 := ex_l e03 hs
    rw [zs_nats (listed_pos hl)] at hs3
    have X3 := X.ext e03
    refine q_fldL (el_listOf (ev_var rfl) hs3) (ev_var rfl) fun u H4 hu e4 h4 => ?_
    have X4 := X3.ext e4
    have e04 := e03.trans e4
    obtain ⟨dx, t, h1, h2⟩ := X4.hs.ok.at_ x hx
    refine ⟨C, dx, cF x.2 t, h1, TC.cl, TC.nT, (by show 3 < 1000; decide), ?_⟩
    rw [put_takers x.2 t u (Vbchaj.nats ns)]
    have nu : u ≠ x.1 := fun e => by rw [e, h1] at h4; cases h4
    have ec : Cm.change x.2 { x.2 with takers := Vbchaj.nats ns } s.clients = s.clients.map fun q => if q.key = x.2.key then { q with takers := Vbchaj.nats ns } else q := by
      unfold Cm.change
      refine List.map_congr_left fun q hq => ?_
      by_cases e : q.key = x.2.key
      · rw [if_pos e, if_pos e, Cm.key_injF (fun c : Cli => c.key) X.inv.ck hq (X.memc hx) e]
      · rw [if_neg e, if_neg e]
    have X5 := X4.client' hx (d := { x.2 with takers := Vbchaj.nats ns }) (o := .ins C dx (cF { x.2 with takers := Vbchaj.nats ns } u)) rfl ⟨dx, u, upd_same, by rw [upd_ne nu]; exact h4⟩ (List.Perm.of_eq ec) (Cm.inv_takers X.inv (known_mem hk) ((distinct_iff _).mp hd))
    have := k.done (by rw [hf]; exact not_neg_zero) (by rw [hf]; exact X5) (Or.inl rfl) ((Fr.of e04).mut (Or.inr (Or.inr (Or.inl (by obtain ⟨dx, t, q, _⟩ := X.hs.ok.at_ x hx; exact ⟨_, _, _, q⟩))))) (fun q hq => fresh_back e04 (fresh_upd hq).1) fun t' a => (aw_client X4 hx a).elim (fun z => Or.inl (by rw [z]; exact fresh_back e03 hu)) fun z => Or.inr (aw_back e04 X.hs.ok.at_ z)
    rw [hf] at this
    exact s_retL (el_lst (ea_cons ev_c ea_nil) (by show 1 ≤ 100000; decide)) this
/-! ### move -/
def gMove (s : Vbchaj.State) : Vbchaj.State × List Int := Vbchaj.step s .move
theorem moved_keys {s : Vbchaj.State} (i : Inv s) : (s.clients.filter fun c => decide (c.key ∈ ckeys (Vbchaj.movedOf s.members s.clients))) = Vbchaj.movedOf s.members s.clients := by
  conv => rhs; unfold Vbchaj.movedOf
  refine List.filter_congr fun c hc => ?_
  rw [Bool.eq_iff_iff, decide_eq_true_iff]
  constructor
  · intro h
    obtain ⟨d, hd, e⟩ := List.mem_map.mp h
    have := Cm.key_injF (fun c : Cli => c.key) i.ck (Cm.moved_sub.subset hd) hc e
    subst this
    exact (List.mem_filter.mp hd).2
  · exact fun h => List.mem_map.mpr ⟨c, List.mem_filter.mpr ⟨hc, h⟩, rfl⟩
theorem gMove_eq {s : Vbchaj.State} (i : Inv s) : gMove s = (⟨lessBy s.members (gl s.members s.clients), s.clients.filter fun c => !decide (c.key ∈ ckeys (Vbchaj.movedOf s.members s.clients))⟩,
    Vbchaj.ints [(Vbchaj.movedOf s.members s.clients).length, (s.clients.filter fun c => !decide (c.key ∈ ckeys (Vbchaj.movedOf s.members s.clients))).length]) := by
  show ((⟨s.members.map fun m => { m with room := m.room - Vbchaj.takenAt (Vbchaj.told s.members s.clients) m.key }, s.clients.filter fun c => Vbchaj.placeOf (Vbchaj.told s.members s.clients) c.key == 0⟩ : Vbchaj.State), Vbchaj.ints [(Vbchaj.told s.members s.clients).length, s.clients.length - (Vbchaj.told s.members s.clients).length]) = _
  have e1 : (s.clients.filter fun c => Vbchaj.placeOf (Vbchaj.told s.members s.clients) c.key == 0) = s.clients.filter fun c => !decide (c.key ∈ ckeys (Vbchaj.movedOf s.members s.clients)) := List.filter_congr fun c _ => Cm.place_zero i c.key
  have e2 : s.clients.length - (Vbchaj.movedOf s.members s.clients).length = (s.clients.filter fun c => !decide (c.key ∈ ckeys (Vbchaj.movedOf s.members s.clients))).length := by
    have := Cm.len_filter (fun c : Cli => decide (c.key ∈ ckeys (Vbchaj.movedOf s.members s.clients))) s.clients
    rw [moved_keys i] at this
    omega
  rw [Cm.move_members i, e1, Cm.told_len i.wn, e2]
theorem less_set {s : Vbchaj.State} (i : Inv s) {gs : List Nat} {g : Nat} {m : Mem} (hm : m ∈ lessBy s.members gs) (hg : m.key = g) : setRoom (lessBy s.members gs) m.key (m.room - 1) = lessBy s.members (gs ++ [g]) := by
  rw [Cm.less_snoc]
  unfold setRoom Vbchaj.without
  have nk : (keysM (lessBy s.members gs)).Nodup := by rw [Cm.keysM_less]; exact i.wn.nk
  refine List.map_congr_left fun x hx => ?_
  subst hg
  by_cases e : x.key = m.key
  · rw [if_pos e, if_pos e, Cm.key_injF (fun m : Mem => m.key) nk hx hm e]
  · rw [if_neg e, if_neg e]
theorem put_clients (rd cl p : Addr) : putF ("clients" : Str) (V.ref p) (hF rd cl) = hF rd p := (put_past (by decide +kernel)).trans (congrArg _ put_here)
theorem HouseAt.h_ne {H : Hp} {h rd cl : Addr} {s : Vbchaj.State} {L : List AC} (x : HouseAt CH C H h rd cl s L) {y : AC} (hy : y ∈ L) : y.1 ≠ h := by
  obtain ⟨dx, e⟩ := x.hs.obj
  obtain ⟨dy, ty, ey, _⟩ := x.hs.ok.at_ y hy
  intro q
  rw [q, e] at ey
  have := Option.some.inj ey
  injection this with _ _ h
  have h := congrArg List.length h
  exact absurd h (by show ¬ 2 = 3; decide)
abbrev s_move : Stmt := top 69
abbrev N_move : List Str := ["house", "clients", "goals", "keys", "goal", "client"]
abbrev P_move : List Str := ["house"]
theorem sc_move : FnScope N_move P_move (defScope s_move) := ⟨rfl, rfl, rfl, by decide +kernel, rfl, by decide +kernel, by decide +kernel⟩

theorem ok_move (TH : ClsH K CH) (TC : ClsC K C) (B : Blt mg) (D : Dfn K mg "move" s_move P_move) (c_moved_clients : Cal P w K mg base 5 "moved_clients" (spMovedC CH C)) (c_placing : Cal P w K mg base 4 "placing" (spPlacing K C)) :
    Cal P w K mg base 6 "move" (spC0 CH C R gMove) := by
  refine cal_of D sc_move (fun vs H Q E h => ?_) fun f cdv A outer s H vs Q E hr h => ?_
  · obtain ⟨a, b, c, d, e, rfl, _⟩ := h; rfl
  · refine ⟨_, (pss_cons (ps_set (i := 1) sc_move.nd rfl (Or.inl rfl) (pe_d c_moved_clients hr (by exact (pa_cons (pv 0) pa_nil))))
  (pss_cons (ps_set (i := 2) sc_move.nd rfl (Or.inl rfl) (pe_d c_placing hr (by exact (pa_cons (pe_fld (pv 0) rfl) (pa_cons (pv 1) pa_nil)))))
  (pss_cons (ps_set (i := 3) sc_move.nd rfl (Or.inr rfl) (pe_lc (own := [("client", 5)]) (g := gName 5) rfl sc_move.nd (pi_list (pv 1)) (blkOk_by (N := N_move) (sc := defScope s_move) (by decide +kernel)) (fun _ _ _ _ _ => by exact (pg_name (i := 5) sc_move.nd rfl (Or.inl rfl))) (fun _ _ _ _ _ => by exact pts_nil) (fun _ _ _ _ _ => by exact (pe_fldK (K := K) rfl (pv 5) rfl))))
  (pss_cons (ps_for PassesOwn.never rfl (pi_list (pv 2)) (pg_name (i := 4) sc_move.nd rfl (Or.inl rfl))
  (pss_one (ps_dput (hu_of hr) (pe_fld (pv 0) rfl) (pv 4) (pe_op op_sub (pe_dget (hu_of hr) (pe_fld (pv 0) rfl) (pv 4) (fun _ _ => rfl)) pe_int) rfl)))
  (pss_cons (ps_fld (pv 0) (pe_lc (own := [("client", 5)]) (g := gName 5) rfl sc_move.nd (pi_list (pe_fld (pv 0) rfl)) (blkOk_by (N := N_move) (sc := defScope s_move) (by decide +kernel)) (fun _ _ _ _ _ => by exact (pg_name (i := 5) sc_move.nd rfl (Or.inl rfl))) (fun _ _ _ _ _ => by exact (pts_one (pt_cmpR (op_ninK (K := K) rfl) (pe_fldK (K := K) rfl (pv 5) rfl) (pv 3) (by rfl)))) (fun _ _ _ _ _ => by exact (pv 5))) rfl)
  (pss_one (ps_ret (pe_lst (by exact (pa_cons (pe_callB call_len_seq (by rfl) B.len (by decide +kernel) (by exact (pa_cons (pv 1) pa_nil))) (pa_cons (pe_callB call_len_seq (by rfl) B.len (by decide +kernel) (by exact (pa_cons (pe_fld (pv 0) rfl) pa_nil))) pa_nil))))))))))), ?_⟩
    obtain ⟨h, rd, cl, s, L, rfl, X, k⟩ := h
    have hf := gMove_eq X.inv
    refine q_asgL (el_movedC (ev_var rfl) X.hs) fun p H1 hp e1 h1 => ?_
    have X1 := X.ext e1
    refine q_asgL (X1.goals TH (ev_var rfl) (ev_var rfl) h1) fun g H2 hg e2 h2 => ?_
    have e02 := e1.trans e2
    have X2 := X1.ext e2
    have okM := X2.hs.ok.ord.mov s.members
    refine q_asgL (el_keys TC okM.few (fun x hx => okM.at_ x hx) (ev_var rfl) (sq_of (e2 _ _ h1)) (fun _ => rfl) (fun _ => rfl)) fun q H3 hq e3 h3 => ?_
    have e03 := e02.trans e3
    have X3 := X.ext e03
    have npc : p ≠ cl := fun z => by subst z; rw [X.hs.lst] at hp; cases hp
    have ngc : g ≠ cl := fun z => by subst z; rw [X1.hs.lst] at hg; cases hg
    have nqc : q ≠ cl := fun z => by subst z; rw [X2.hs.lst] at hq; cases hq
    have hrd : ∃ kvs, H3 rd = some (.dK kvs) := by obtain ⟨l, _, q⟩ := X3.hs.rooms.ex; exact ⟨_, q⟩
    refine q_forLn (ev_var rfl) (sq_of (e3 _ _ h2)) (fun i σ' H' => ∃ v4 v5, σ' = [some (.ref h), some (.ref p), some (.ref g), some (.ref q), v4, v5] ∧ Fr cl H3 H' ∧ (∀ b, H' b = none → H3 b = none) ∧ (∀ t, Aw C H' L t → Aw C H3 L t) ∧
        HouseAt CH C H' h rd cl { s with members := lessBy s.members ((gl s.members s.clients).take i) } L) (fun H4 e4 => ⟨none, none, rfl, Fr.of e4, fun b hb => fresh_back e4 hb, fun t a => aw_back e4 X3.hs.ok.at_ a, ?_⟩) (fun i σ' H' hi ⟨_, _, _, fr, _, _, _⟩ => Fr.sq fr (sq_of (e3 _ _ h2)) ngc) (fun i x σ' H' hx ⟨v4, v5, es, fr, fb, fa, Y⟩ => ?_) (fun σ' H' ⟨v4, v5, es, fr, fb, fa, Y⟩ => ?_)
    · rw [List.take_zero, Cm.less_nil]
      exact X3.ext e4
    · subst es
      obtain ⟨o, ho, rfl, hoM⟩ := nats_at hx
      obtain ⟨hi, hio⟩ := List.getElem?_eq_some_iff.mp ho
      have hpos := Cm.pos_take _ _ (Cm.told_pos X.inv) i hi
      rw [hio, Cm.less_fold s.members _ _ rfl] at hpos
      have hk := Cm.roomOf_pos_mem hpos
      obtain ⟨m, hm, hmo⟩ := List.mem_map.mp hk
      have nk : (keysM (lessBy s.members ((gl s.members s.clients).take i))).Nodup := by rw [Cm.keysM_less]; exact X.inv.wn.nk
      rw [← hmo, Cm.roomOf_mem nk hm] at hpos
      subst hmo
      refine s_roomPut (v := m.room - 1) Y.hs.rooms (ev_to (ev_op (ev_room Y.hs.rooms hm (ev_rooms TH (ev_var rfl) Y.hs) (ev_var rfl)) ev_c rv_I0) ?_) (ev_rooms TH (ev_var rfl) Y.hs) (ev_var rfl) fun H4 l e4 pl hl => ⟨_, _, rfl, (fr.then e4).mut (Or.inr (Or.inr (Or.inr hrd))), fun b hb => fb b (fresh_back e4 (fresh_upd hb).1), fun t a => fa t (aw_back e4 Y.hs.ok.at_ (aw_upd (fun y hy => (Y.ext e4).n_rd hy) a)), ?_⟩
      · show V.int ((m.room : Int) - 1) = V.int ((m.room - 1 : Nat) : Int)
        congr 1
        omega
      · have Y4 := Y.ext e4
        have r := Y4.hs.rooms.set (k := m.key) (v := m.room - 1) (H1 := H4) (List.mem_map.mpr ⟨m, hm, rfl⟩) pl
        have hls := less_set X.inv hm rfl
        have htk : (gl s.members s.clients).take (i + 1) = (gl s.members s.clients).take i ++ [m.key] := by rw [List.take_succ_eq_append_getElem hi, hio]
        have i' : Inv { s with members := setRoom (lessBy s.members ((gl s.members s.clients).take i)) m.key (m.room - 1) } := Cm.inv_rooms X.inv (by rw [keys_setRoom, Cm.keysM_less])
        have Y5 := Y4.rooms' r i'
        rw [htk, ← hls]
        exact Y5
    · subst es
      rw [nats_len, List.take_length] at Y
      have f3 := fun {b xs} (hb : b ≠ cl) (e : H3 b = some (.lst xs)) => fr b _ e hb (fun _ _ _ => by simp) (fun _ => by simp)
      have hkeysq : H' q = some (.lst (nats (keysA (movL s.members (ordL L))))) := f3 nqc h3
      refine q_fldL (el_lcM L (fun x => V.ref x.1) (fun x => V.ref x.1) (fun x => !decide (x.2.key ∈ keysA (movL s.members (ordL L)))) (ev_clients TH (ev_var rfl) Y.hs) (sq_of Y.hs.lst) (by have := X.hs.ok.few; omega) (fun _ => rfl)
        (fun x hx H4 e4 => et_test (ev_ninN (ev_key TC (ev_var rfl) ((Y.hs.ok.ext e4).at_ x hx)) (ev_var rfl) (sq_of (e4 _ _ hkeysq)))) (fun x hx H4 e4 _ => ev_var rfl)) (ev_var rfl) fun n H4 hn e4 h4 => ?_
      have Y4 := Y.ext e4
      obtain ⟨dx, ho⟩ := Y4.hs.obj
      refine ⟨CH, dx, hF rd cl, ho, TH.cl, TH.nC, (by show 2 < 1000; decide), ?_⟩
      rw [put_clients]
      have nh : n ≠ h := fun z => by rw [z] at h4; rw [ho] at h4; cases h4
      have hp2 : ((L.filter fun x => !decide (x.2.key ∈ keysA (movL s.members (ordL L)))).map Prod.snd).Perm (s.clients.filter fun c => !decide (c.key ∈ ckeys (Vbchaj.movedOf s.members s.clients))) := by
        rw [X.movk, filt_map L fun c => !decide (c.key ∈ ckeys (Vbchaj.movedOf s.members s.clients))]
        exact X.perm.filter _
      have i' : Inv ⟨lessBy s.members (gl s.members s.clients), s.clients.filter fun c => !decide (c.key ∈ ckeys (Vbchaj.movedOf s.members s.clients))⟩ := Cm.inv_sub (s := { s with members := lessBy s.members (gl s.members s.clients) }) Y.inv List.filter_sublist
      have hrdh : rd ≠ h := Y4.h_rd.symm
      have Y5 : HouseAt CH C (upd H4 h (.ins CH dx (hF rd n))) h rd n ⟨lessBy s.members (gl s.members s.clients), s.clients.filter fun c => !decide (c.key ∈ ckeys (Vbchaj.movedOf s.members s.clients))⟩ (L.filter fun x => !decide (x.2.key ∈ keysA (movL s.members (ordL L)))) := by
        have okF := Y4.hs.ok.sub (M := L.filter fun x => !decide (x.2.key ∈ keysA (movL s.members (ordL L)))) (fun x hx => (List.mem_filter.mp hx).1) (Nat.le_trans (List.length_filter_le _ _) Y4.hs.ok.few)
        exact ⟨⟨⟨dx, upd_same⟩, Y4.hs.rooms.other hrdh, by rw [upd_ne nh]; exact h4, okF.few, fun x hx => (okF.at_ x hx).other ho (Y4.h_ne (List.mem_filter.mp hx).1), okF.tk, okF.tl⟩, hp2, i'⟩
      have fr4 : Fr cl H (upd H4 h (.ins CH dx (hF rd n))) := (Fr.ex e03 (fr.then e4)).mut (Or.inr (Or.inr (Or.inl (by obtain ⟨dx, q⟩ := X.hs.obj; exact ⟨_, _, _, q⟩))))
      have fb4 : ∀ b, (upd H4 h (.ins CH dx (hF rd n))) b = none → H b = none := fun b hb => fresh_back e03 (fb b (fresh_back e4 (fresh_upd hb).1))
      have hcl : n = cl ∨ H n = none := Or.inr (fresh_back e03 (fb n hn))
      have := k.done (by rw [hf]; exact not_neg_ints _) (by rw [hf]; exact Y5) hcl fr4 fb4 fun t a => Or.inr (aw_back e03 X.hs.ok.at_ (fa t (aw_back e4 Y.hs.ok.at_ (aw_sub (fun y hy => (List.mem_filter.mp hy).1) (aw_upd (fun y hy => Y4.h_ne (List.mem_filter.mp hy).1) a)))))
      rw [hf] at this
      have hpl : (upd H4 h (.ins CH dx (hF rd n))) p = some (.lst (refs (movL s.members (ordL L)))) := by
        have h5 := e4 _ _ (f3 npc ((e2.trans e3) _ _ h1))
        rw [upd_ne]
        · exact h5
        · intro z; rw [z, ho] at h5; cases h5
      refine s_retL (el_to (el_lst (ea_cons (ev_len (ev_var rfl) (sq_of hpl)) (ea_cons (ev_len (ev_clients TH (ev_var rfl) Y5.hs) (sq_of Y5.hs.lst)) ea_nil)) (by show 2 ≤ 100000; decide)) ?_) this
      have hlm : (Vbchaj.movedOf s.members s.clients).length = (movL s.members (ordL L)).length := by rw [← X.mov, List.length_map]
      rw [zs_ints, refs_len, refs_len, ← hp2.length_eq, List.length_map, hlm]
      rfl
end
end Cw
namespace Cw
open PySem PySem.Spec PyProof.Rows L2 Evl
open PySem.RefX (RefTxt)
open Cm (keysM setN isW hasB roomSl goesIn keptToo isFreeB withoutPlace movedBy allSl freeOf goalsOf GoalsOk keysOf leastOf isProof proofsOf boundsOf coversOf Inv Wn ckeys gl lessBy)
/-! ### which call -/
inductive Chg : Int → List Int → List Int → Vbchaj.Call → Prop
  | c0 (z y : Int) (rs : List Int) : Chg 0 [z, y] rs (.member z y)
  | c1 (z y : Int) (rs : List Int) : Chg 1 [z, y] rs (.client z y rs)
  | c2 (z : Int) (rs : List Int) : Chg 2 [z] rs (.gone z)
  | c3 (z : Int) (rs : List Int) : Chg 3 [z] rs (.drop z)
  | c4 (z y : Int) (rs : List Int) : Chg 4 [z, y] rs (.room z y)
  | c5 (z y : Int) (rs : List Int) : Chg 5 [z, y] rs (.order z y)
  | c6 (z : Int) (rs : List Int) : Chg 6 [z] rs (.takers z rs)
  | c7 (rs : List Int) : Chg 7 [] rs .move
inductive Lsd : Int → List Int → List Int → Vbchaj.Call → Prop
  | c12 (z : Int) (rs : List Int) : Lsd 12 [z] rs (.check z rs)
  | c13 (rs : List Int) : Lsd 13 [] rs (.bound rs)
  | c19 (rs : List Int) : Lsd 19 [] rs (.isPlan rs)
inductive Kyd : Int → Int → Vbchaj.Call → Prop
  | c10 (z : Int) : Kyd 10 z (.where_ z)
  | c11 (z : Int) : Kyd 11 z (.why z)
  | c15 (z : Int) : Kyd 15 z (.without z)
  | c16 (z : Int) : Kyd 16 z (.roomier z)
  | c17 (z : Int) : Kyd 17 z (.first z)
inductive Ald : Int → Vbchaj.Call → Prop
  | c8 : Ald 8 .moved
  | c9 : Ald 9 .left
  | c14 : Ald 14 .cover
  | c20 : Ald 20 .members
  | c21 : Ald 21 .clients
theorem Chg.inv {n : Int} {ts rs : List Int} {c : Vbchaj.Call} (h : Chg n ts rs c) :
    (n = 0 → ∃ z y, ts = [z, y] ∧ c = .member z y) ∧ (n = 1 → ∃ z y, ts = [z, y] ∧ c = .client z y rs) ∧ (n = 2 → ∃ z, ts = [z] ∧ c = .gone z) ∧ (n = 3 → ∃ z, ts = [z] ∧ c = .drop z) ∧
    (n = 4 → ∃ z y, ts = [z, y] ∧ c = .room z y) ∧ (n = 5 → ∃ z y, ts = [z, y] ∧ c = .order z y) ∧ (n = 6 → ∃ z, ts = [z] ∧ c = .takers z rs) ∧ (n ≠ 0 → n ≠ 1 → n ≠ 2 → n ≠ 3 → n ≠ 4 → n ≠ 5 → n ≠ 6 → c = .move) ∧ n ≤ 7 := by
  cases h <;> refine ⟨?_, ?_, ?_, ?_, ?_, ?_, ?_, ?_, by decide⟩ <;> first | exact fun _ => ⟨_, _, rfl, rfl⟩ | exact fun _ => ⟨_, rfl, rfl⟩ | exact fun _ _ _ _ _ _ _ => rfl | (intro q; exact absurd q (by decide)) | (intros; first | rfl | contradiction)
theorem Lsd.inv {n : Int} {ts rs : List Int} {c : Vbchaj.Call} (h : Lsd n ts rs c) : (n = 12 → ∃ z, ts = [z] ∧ c = .check z rs) ∧ (n = 13 → c = .bound rs) ∧ (n ≠ 12 → n ≠ 13 → c = .isPlan rs) ∧ ¬ n ≤ 7 ∧ (n = 12 ∨ n = 13 ∨ n = 19) := by
  cases h <;> refine ⟨?_, ?_, ?_, by decide, by decide⟩ <;> first | exact fun _ => ⟨_, rfl, rfl⟩ | (intro q; exact absurd q (by decide)) | (intros; first | rfl | contradiction)
theorem Kyd.inv {n z : Int} {c : Vbchaj.Call} (h : Kyd n z c) : (n = 10 → c = .where_ z) ∧ (n = 11 → c = .why z) ∧ (n = 15 → c = .without z) ∧ (n = 16 → c = .roomier z) ∧ (n ≠ 10 → n ≠ 11 → n ≠ 15 → n ≠ 16 → c = .first z) ∧ (¬ n ≤ 7 ∧ n ≠ 12 ∧ n ≠ 13 ∧ n ≠ 19 ∧ n ≠ 18) := by
  cases h <;> refine ⟨?_, ?_, ?_, ?_, ?_, by decide⟩ <;> first | (intro q; exact absurd q (by decide)) | (intros; first | rfl | contradiction)
theorem Ald.inv {n : Int} {c : Vbchaj.Call} (h : Ald n c) : (n = 8 → c = .moved) ∧ (n = 9 → c = .left) ∧ (n = 14 → c = .cover) ∧ (n = 20 → c = .members) ∧ (n ≠ 8 → n ≠ 9 → n ≠ 14 → n ≠ 20 → c = .clients) ∧ (¬ n ≤ 7 ∧ n ≠ 12 ∧ n ≠ 13 ∧ n ≠ 19 ∧ n ≠ 18) := by
  cases h <;> refine ⟨?_, ?_, ?_, ?_, ?_, by decide⟩ <;> first | (intro q; exact absurd q (by decide)) | (intros; first | rfl | contradiction)
inductive Ask : Int → List Int → List Int → Vbchaj.Call → Prop
  | chg {n : Int} {ts rs : List Int} {c : Vbchaj.Call} : Chg n ts rs c → Ask n ts rs c
  | lsd {n : Int} {ts rs : List Int} {c : Vbchaj.Call} : Lsd n ts rs c → Ask n ts rs c
  | may (z y : Int) (rs : List Int) : Ask 18 [z, y] rs (.may z y)
  | kyd {n z : Int} {rs : List Int} {c : Vbchaj.Call} : Kyd n z c → Ask n [z] rs c
  | ald {n : Int} {rs : List Int} {c : Vbchaj.Call} : Ald n c → Ask n [] rs c
/-! ### askers leave the state -/
section
variable {s : Vbchaj.State} {z : Int} {l : List Int}
theorem onC_s {f : Cli → Vbchaj.State × List Int} (h : ∀ c, (f c).1 = s) : (Vbchaj.onClient s z f).1 = s := by
  unfold Vbchaj.onClient
  split
  · rfl
  · split
    · rfl
    · exact h _
theorem onM_s {f : Mem → Vbchaj.State × List Int} (h : ∀ c, (f c).1 = s) : (Vbchaj.onMember s z f).1 = s := by
  unfold Vbchaj.onMember
  split
  · rfl
  · split
    · rfl
    · exact h _
theorem onL_s {f : List Nat → Vbchaj.State × List Int} (h : ∀ c, (f c).1 = s) : (Vbchaj.onList s l f).1 = s := by
  unfold Vbchaj.onList
  split
  · rfl
  · split
    · rfl
    · split
      · rfl
      · exact h _
theorem ite_s {p : Prop} [Decidable p] {a b : Vbchaj.State × List Int} (h1 : a.1 = s) (h2 : b.1 = s) : (if p then a else b).1 = s := by split; exact h1; exact h2
theorem Lsd.same {n : Int} {ts rs : List Int} {c : Vbchaj.Call} (h : Lsd n ts rs c) (s : Vbchaj.State) : (Vbchaj.step s c).1 = s := by
  cases h with
  | c12 z rs => exact ite_s rfl (onL_s fun _ => onC_s fun _ => rfl)
  | c13 rs => exact onL_s fun _ => rfl
  | c19 rs => exact ite_s rfl rfl
theorem Kyd.same {n z : Int} {c : Vbchaj.Call} (h : Kyd n z c) (s : Vbchaj.State) : (Vbchaj.step s c).1 = s := by
  cases h with
  | c10 => exact onC_s fun _ => rfl
  | c11 => exact onC_s fun _ => ite_s rfl rfl
  | c15 => exact onC_s fun _ => rfl
  | c16 => exact onM_s fun _ => rfl
  | c17 => exact onC_s fun _ => rfl
theorem Ald.same {n : Int} {c : Vbchaj.Call} (h : Ald n c) (s : Vbchaj.State) : (Vbchaj.step s c).1 = s := by cases h <;> rfl
theorem Ald.fine {n : Int} {c : Vbchaj.Call} (h : Ald n c) (s : Vbchaj.State) : ¬ Neg (Vbchaj.step s c).2 := by
  cases h
  · exact not_neg_ints _
  · exact not_neg_ints _
  · exact not_neg_ints _
  · exact not_neg_ints _
  · exact not_neg_ints _
theorem may_same (s : Vbchaj.State) (z y : Int) : (Vbchaj.step s (.may z y)).1 = s := ite_s rfl (onC_s fun _ => ite_s rfl rfl)
/-- a call refused leaves the state -/
theorem neg_ite {p : Prop} [Decidable p] {a b : Vbchaj.State × List Int} (h1 : Neg a.2 → a.1 = s) (h2 : Neg b.2 → b.1 = s) : Neg (if p then a else b).2 → (if p then a else b).1 = s := by split; exact h1; exact h2
theorem neg_C {f : Cli → Vbchaj.State × List Int} (h : ∀ c, Neg (f c).2 → (f c).1 = s) : Neg (Vbchaj.onClient s z f).2 → (Vbchaj.onClient s z f).1 = s := by
  unfold Vbchaj.onClient
  refine neg_ite (fun _ => rfl) ?_
  split
  · exact fun _ => rfl
  · exact h _
theorem neg_M {f : Mem → Vbchaj.State × List Int} (h : ∀ c, Neg (f c).2 → (f c).1 = s) : Neg (Vbchaj.onMember s z f).2 → (Vbchaj.onMember s z f).1 = s := by
  unfold Vbchaj.onMember
  refine neg_ite (fun _ => rfl) ?_
  split
  · exact fun _ => rfl
  · exact h _
theorem Chg.neg {n : Int} {ts rs : List Int} {c : Vbchaj.Call} (h : Chg n ts rs c) (s : Vbchaj.State) : Neg (Vbchaj.step s c).2 → (Vbchaj.step s c).1 = s := by
  cases h with
  | c0 z y => exact neg_ite (fun _ => rfl) (neg_ite (fun _ => rfl) (neg_ite (fun _ => rfl) fun q => absurd q not_neg_zero))
  | c1 z y => exact neg_ite (fun _ => rfl) (neg_ite (fun _ => rfl) (neg_ite (fun _ => rfl) (neg_ite (fun _ => rfl) (neg_ite (fun _ => rfl) fun q => absurd q not_neg_zero))))
  | c2 z => exact neg_M fun m => neg_ite (fun _ => rfl) fun q => absurd q (not_neg_nat _)
  | c3 z => exact neg_C fun m q => absurd q not_neg_zero
  | c4 z y => exact neg_ite (fun _ => rfl) (neg_M fun m q => absurd q (not_neg_nat _))
  | c5 z y => exact neg_ite (fun _ => rfl) (neg_C fun m q => absurd q (not_neg_nat _))
  | c6 z => exact neg_ite (fun _ => rfl) (neg_ite (fun _ => rfl) (neg_ite (fun _ => rfl) (neg_C fun m q => absurd q not_neg_zero)))
  | c7 => exact fun q => absurd q (not_neg_ints _)
theorem Ask.neg {n : Int} {ts rs : List Int} {c : Vbchaj.Call} (h : Ask n ts rs c) (s : Vbchaj.State) : Neg (Vbchaj.step s c).2 → (Vbchaj.step s c).1 = s := by
  cases h with
  | chg h => exact h.neg s
  | lsd h => exact fun _ => h.same s
  | may z y => exact fun _ => may_same s z y
  | kyd h => exact fun _ => h.same s
  | ald h => exact fun _ => h.same s
end
/-! ### words -/
section
variable {K : PySem.W.Frag} {σ : L2.St} {H : Hp} {ta tb : TE} {t : TT} {D : Ends}
theorem s_retIf {b : Bool} (h : EvT t σ H b) (h1 : b = true → ∀ H1, Ex H H1 → tRet ta D σ H1) (h2 : b = false → ∀ H1, Ex H H1 → tRet tb D σ H1) : tRet (tIf t ta tb) D σ H := h H (Ex.refl H) _ fun H1 e => by
  cases b
  · exact h2 rfl H1 e
  · exact h1 rfl H1 e
theorem ev_is_int {n k : Int} (h : Ev ta σ H (.int n)) : EvT (tTest (tOp rEq ta (tC (.int k)))) σ H (decide (n = k)) := et_op h ev_c (rv_eqI _ _)
theorem ev_told {p : Addr} {ts : List Int} {i : Nat} (h : Ev ta σ H (.ref p)) (hs : SqL K H p (zs ts)) (hi : i < ts.length) : Ev (tOp (rIxL K) ta (tC (.int (i : Int)))) σ H (.int (ts.getD i 0)) := ev_op h ev_c (rv_ixL hs (at_zs hi))
end
section
variable {P : Program} {w : World} {K : PySem.W.Frag} {mg : Str → Option Value} {base : Heap} {C CH R fI aN aW : Addr}
/-! ### of_change -/
def spOfChange (K : PySem.W.Frag) (CH C R : Addr) : Sp := fun vs H Q E => ∃ (h rd cl a b : Addr) (s : Vbchaj.State) (L : List AC) (n : Int) (ts rs : List Int) (c : Vbchaj.Call), vs = [.ref h, .int n, .ref a, .ref b] ∧ HouseAt CH C H h rd cl s L ∧ SqL K H a (zs ts) ∧ SqL K H b (zs rs) ∧ rs.length ≤ 100 ∧
  Chg n ts rs c ∧ ToldC CH C R H h rd cl L (Vbchaj.step s c) Q E
abbrev s_of_change : Stmt := top 73
abbrev N_of_change : List Str := ["house", "number", "told", "row"]
abbrev P_of_change : List Str := ["house", "number", "told", "row"]
theorem sc_of_change : FnScope N_of_change P_of_change (defScope s_of_change) := ⟨rfl, rfl, rfl, by decide +kernel, rfl, by decide +kernel, by decide +kernel⟩

theorem ok_of_change (D : Dfn K mg "of_change" s_of_change P_of_change) (x_put_member : CalX P w K mg base 5 "put_member" (spC2 CH C R gMember)) (x_put_client : CalX P w K mg base 6 "put_client" (spC2L K CH C R gClient)) (x_gone : CalX P w K mg base 5 "gone" (spC1 CH C R gGone)) (x_drop : CalX P w K mg base 5 "drop" (spC1 CH C R gDrop))
    (x_change_room : CalX P w K mg base 5 "change_room" (spC2 CH C R gRoom)) (x_change_order : CalX P w K mg base 5 "change_order" (spC2 CH C R gOrder)) (x_change_takers : CalX P w K mg base 6 "change_takers" (spC1L K CH C R gTakers)) (c_move : Cal P w K mg base 6 "move" (spC0 CH C R gMove)) :
    CalX P w K mg base 7 "of_change" (spOfChange K CH C R) := by
  refine calX_of D sc_of_change (fun vs H Q E h => ?_) fun f cdv A outer s H vs Q E hr h => ?_
  · obtain ⟨a, b, c, d, e, g, i, j, l, m, n, rfl, _⟩ := h; rfl
  · refine ⟨_, (pss_cons (ps_if (pt_cmpR op_eq (pv 1) pe_int (nomark _)) (pss_one (ps_ret (pe_x x_put_member hr (takes_of rfl rfl rfl rfl) (by exact (pa_cons (pv 0) (pa_cons (pe_ix ix_list (pv 2) pe_int (fun _ _ => rfl)) (pa_cons (pe_ix ix_list (pv 2) pe_int (fun _ _ => rfl)) pa_nil))))))) pss_nil)
  (pss_cons (ps_if (pt_cmpR op_eq (pv 1) pe_int (nomark _)) (pss_one (ps_ret (pe_x x_put_client hr (takes_of rfl rfl rfl rfl) (by exact (pa_cons (pv 0) (pa_cons (pe_ix ix_list (pv 2) pe_int (fun _ _ => rfl)) (pa_cons (pe_ix ix_list (pv 2) pe_int (fun _ _ => rfl)) (pa_cons (pv 3) pa_nil)))))))) pss_nil)
  (pss_cons (ps_if (pt_cmpR op_eq (pv 1) pe_int (nomark _)) (pss_one (ps_ret (pe_x x_gone hr (takes_of rfl rfl rfl rfl) (by exact (pa_cons (pv 0) (pa_cons (pe_ix ix_list (pv 2) pe_int (fun _ _ => rfl)) pa_nil)))))) pss_nil)
  (pss_cons (ps_if (pt_cmpR op_eq (pv 1) pe_int (nomark _)) (pss_one (ps_ret (pe_x x_drop hr (takes_of rfl rfl rfl rfl) (by exact (pa_cons (pv 0) (pa_cons (pe_ix ix_list (pv 2) pe_int (fun _ _ => rfl)) pa_nil)))))) pss_nil)
  (pss_cons (ps_if (pt_cmpR op_eq (pv 1) pe_int (nomark _)) (pss_one (ps_ret (pe_x x_change_room hr (takes_of rfl rfl rfl rfl) (by exact (pa_cons (pv 0) (pa_cons (pe_ix ix_list (pv 2) pe_int (fun _ _ => rfl)) (pa_cons (pe_ix ix_list (pv 2) pe_int (fun _ _ => rfl)) pa_nil))))))) pss_nil)
  (pss_cons (ps_if (pt_cmpR op_eq (pv 1) pe_int (nomark _)) (pss_one (ps_ret (pe_x x_change_order hr (takes_of rfl rfl rfl rfl) (by exact (pa_cons (pv 0) (pa_cons (pe_ix ix_list (pv 2) pe_int (fun _ _ => rfl)) (pa_cons (pe_ix ix_list (pv 2) pe_int (fun _ _ => rfl)) pa_nil))))))) pss_nil)
  (pss_one (ps_ret (pe_ifExp (pt_cmpR op_eq (pv 1) pe_int (nomark _)) (pe_x x_change_takers hr (takes_of rfl rfl rfl rfl) (by exact (pa_cons (pv 0) (pa_cons (pe_ix ix_list (pv 2) pe_int (fun _ _ => rfl)) (pa_cons (pv 3) pa_nil))))) (pe_d c_move hr (by exact (pa_cons (pv 0) pa_nil)))))))))))), ?_⟩
    obtain ⟨h, rd, cl, a, b, s, L, n, ts, rs, c, rfl, X, ha, hb, hn, hc, k⟩ := h
    obtain ⟨i0, i1, i2, i3, i4, i5, i6, i7, _⟩ := hc.inv
    refine q_when (ev_is_int (ev_var rfl)) (fun q H1 e1 => ?_) fun q0 H1 e1 => ?_
    · obtain ⟨z, y, rfl, rfl⟩ := i0 (of_decide_eq_true q)
      exact s_retX (as_v (ev_var rfl) (as_v (ev_told (i := 0) (ev_var rfl) (ex_l e1 ha) (by show 0 < 2; decide)) (as_v (ev_told (i := 1) (ev_var rfl) (ex_l e1 ha) (by show 1 < 2; decide)) (as_nil fun H2 e2 => ⟨h, rd, cl, s, L, z, y, rfl, X.ext (e1.trans e2), k.go X (e1.trans e2)⟩))))
    refine q_when (ev_is_int (ev_var rfl)) (fun q H2 e2 => ?_) fun q1 H2 e2 => ?_
    · obtain ⟨z, y, rfl, rfl⟩ := i1 (of_decide_eq_true q)
      have e := e1.trans e2
      exact s_retX (as_v (ev_var rfl) (as_v (ev_told (i := 0) (ev_var rfl) (ex_l e ha) (by show 0 < 2; decide)) (as_v (ev_told (i := 1) (ev_var rfl) (ex_l e ha) (by show 1 < 2; decide)) (as_v (ev_var rfl) (as_nil fun H3 e3 => ⟨h, rd, cl, b, s, L, z, y, rs, rfl, X.ext (e.trans e3), ex_l (e.trans e3) hb, hn, k.go X (e.trans e3)⟩)))))
    have e := e1.trans e2
    refine q_when (ev_is_int (ev_var rfl)) (fun q H3 e3 => ?_) fun q2 H3 e3 => ?_
    · obtain ⟨z, rfl, rfl⟩ := i2 (of_decide_eq_true q)
      have e := e.trans e3
      exact s_retX (as_v (ev_var rfl) (as_v (ev_told (i := 0) (ev_var rfl) (ex_l e ha) (by show 0 < 1; decide)) (as_nil fun H3 e3 => ⟨h, rd, cl, s, L, z, rfl, X.ext (e.trans e3), k.go X (e.trans e3)⟩)))
    have e := e.trans e3
    refine q_when (ev_is_int (ev_var rfl)) (fun q H4 e4 => ?_) fun q3 H4 e4 => ?_
    · obtain ⟨z, rfl, rfl⟩ := i3 (of_decide_eq_true q)
      have e := e.trans e4
      exact s_retX (as_v (ev_var rfl) (as_v (ev_told (i := 0) (ev_var rfl) (ex_l e ha) (by show 0 < 1; decide)) (as_nil fun H3 e3 => ⟨h, rd, cl, s, L, z, rfl, X.ext (e.trans e3), k.go X (e.trans e3)⟩)))
    have e := e.trans e4
    refine q_when (ev_is_int (ev_var rfl)) (fun q H5 e5 => ?_) fun q4 H5 e5 => ?_
    · obtain ⟨z, y, rfl, rfl⟩ := i4 (of_decide_eq_true q)
      have e := e.trans e5
      exact s_retX (as_v (ev_var rfl) (as_v (ev_told (i := 0) (ev_var rfl) (ex_l e ha) (by show 0 < 2; decide)) (as_v (ev_told (i := 1) (ev_var rfl) (ex_l e ha) (by show 1 < 2; decide)) (as_nil fun H2 e2 => ⟨h, rd, cl, s, L, z, y, rfl, X.ext (e.trans e2), k.go X (e.trans e2)⟩))))
    have e := e.trans e5
    refine q_when (ev_is_int (ev_var rfl)) (fun q H6 e6 => ?_) fun q5 H6 e6 => ?_
    · obtain ⟨z, y, rfl, rfl⟩ := i5 (of_decide_eq_true q)
      have e := e.trans e6
      exact s_retX (as_v (ev_var rfl) (as_v (ev_told (i := 0) (ev_var rfl) (ex_l e ha) (by show 0 < 2; decide)) (as_v (ev_told (i := 1) (ev_var rfl) (ex_l e ha) (by show 1 < 2; decide)) (as_nil fun H2 e2 => ⟨h, rd, cl, s, L, z, y, rfl, X.ext (e.trans e2), k.go X (e.trans e2)⟩))))
    have e := e.trans e6
    refine s_retIf (ev_is_int (ev_var rfl)) (fun q H7 e7 => ?_) fun q6 H7 e7 => ?_
    · obtain ⟨z, rfl, rfl⟩ := i6 (of_decide_eq_true q)
      have e := e.trans e7
      exact s_retX (as_v (ev_var rfl) (as_v (ev_told (i := 0) (ev_var rfl) (ex_l e ha) (by show 0 < 1; decide)) (as_v (ev_var rfl) (as_nil fun H3 e3 => ⟨h, rd, cl, b, s, L, z, rs, rfl, X.ext (e.trans e3), ex_l (e.trans e3) hb, hn, k.go X (e.trans e3)⟩))))
    · obtain rfl := i7 (of_decide_eq_false q0) (of_decide_eq_false q1) (of_decide_eq_false q2) (of_decide_eq_false q3) (of_decide_eq_false q4) (of_decide_eq_false q5) (of_decide_eq_false q6)
      have e := e.trans e7
      refine as_v (P := fun vs H1 => spC0 CH C R gMove vs H1 _ _) (ev_var rfl) (as_nil fun H3 e3 => ⟨h, rd, cl, s, L, rfl, X.ext (e.trans e3), ?_⟩) H7 (Ex.refl H7) _ fun _ _ _ p => p
      have hng : ¬ Neg (Vbchaj.step s .move).2 := not_neg_ints _
      exact ⟨fun c h1 h2 => absurd ⟨c, h1, h2⟩ hng, (k.go X (e.trans e3)).yes⟩
/-! ### of_list, of_key, of_all -/
def spOfList (K : PySem.W.Frag) (CH C R : Addr) : Sp := fun vs H Q E => ∃ (h rd cl a b : Addr) (s : Vbchaj.State) (L : List AC) (n : Int) (ts rs : List Int) (c : Vbchaj.Call), vs = [.ref h, .int n, .ref a, .ref b] ∧ HouseAt CH C H h rd cl s L ∧ SqL K H a (zs ts) ∧ SqL K H b (zs rs) ∧ rs.length ≤ 100 ∧
  Lsd n ts rs c ∧ Told R H (Vbchaj.step s c).2 Q E
abbrev s_of_list : Stmt := top 74
abbrev N_of_list : List Str := ["house", "number", "told", "row"]
abbrev P_of_list : List Str := ["house", "number", "told", "row"]
theorem sc_of_list : FnScope N_of_list P_of_list (defScope s_of_list) := ⟨rfl, rfl, rfl, by decide +kernel, rfl, by decide +kernel, by decide +kernel⟩

theorem ok_of_list (D : Dfn K mg "of_list" s_of_list P_of_list) (x_check : CalX P w K mg base 8 "check" (spA1L K CH C R fCheck)) (x_bound : CalX P w K mg base 6 "bound" (spAL K CH C R fBound)) (x_isplan : CalX P w K mg base 6 "isplan" (spAL K CH C R fIsPlan)) :
    CalX P w K mg base 9 "of_list" (spOfList K CH C R) := by
  refine calX_of D sc_of_list (fun vs H Q E h => ?_) fun f cdv A outer s H vs Q E hr h => ?_
  · obtain ⟨a, b, c, d, e, g, i, j, l, m, n, rfl, _⟩ := h; rfl
  · refine ⟨_, (pss_cons (ps_if (pt_cmpR op_eq (pv 1) pe_int (nomark _)) (pss_one (ps_ret (pe_x x_check hr (takes_of rfl rfl rfl rfl) (by exact (pa_cons (pv 0) (pa_cons (pe_ix ix_list (pv 2) pe_int (fun _ _ => rfl)) (pa_cons (pv 3) pa_nil))))))) pss_nil)
  (pss_one (ps_ret (pe_ifExp (pt_cmpR op_eq (pv 1) pe_int (nomark _)) (pe_x x_bound hr (takes_of rfl rfl rfl rfl) (by exact (pa_cons (pv 0) (pa_cons (pv 3) pa_nil)))) (pe_x x_isplan hr (takes_of rfl rfl rfl rfl) (by exact (pa_cons (pv 0) (pa_cons (pv 3) pa_nil)))))))), ?_⟩
    obtain ⟨h, rd, cl, a, b, s, L, n, ts, rs, c, rfl, X, ha, hb, hn, hc, k⟩ := h
    obtain ⟨i0, i1, i2, _⟩ := hc.inv
    refine q_when (ev_is_int (ev_var rfl)) (fun q H1 e1 => ?_) fun q0 H1 e1 => ?_
    · obtain ⟨z, rfl, rfl⟩ := i0 (of_decide_eq_true q)
      exact s_retX (as_v (ev_var rfl) (as_v (ev_told (i := 0) (ev_var rfl) (ex_l e1 ha) (by show 0 < 1; decide)) (as_v (ev_var rfl) (as_nil fun H2 e2 => ⟨h, rd, cl, b, s, L, z, rs, rfl, X.ext (e1.trans e2), ex_l (e1.trans e2) hb, hn, k.go (e1.trans e2)⟩))))
    refine s_retIf (ev_is_int (ev_var rfl)) (fun q H2 e2 => ?_) fun q1 H2 e2 => ?_
    · obtain rfl := i1 (of_decide_eq_true q)
      have e := e1.trans e2
      exact s_retX (as_v (ev_var rfl) (as_v (ev_var rfl) (as_nil fun H2 e2 => ⟨h, rd, cl, b, s, L, rs, rfl, X.ext (e.trans e2), ex_l (e.trans e2) hb, hn, k.go (e.trans e2)⟩)))
    · obtain rfl := i2 (of_decide_eq_false q0) (of_decide_eq_false q1)
      have e := e1.trans e2
      exact s_retX (as_v (ev_var rfl) (as_v (ev_var rfl) (as_nil fun H2 e2 => ⟨h, rd, cl, b, s, L, rs, rfl, X.ext (e.trans e2), ex_l (e.trans e2) hb, hn, k.go (e.trans e2)⟩)))
def spOfKey (CH C R : Addr) : Sp := fun vs H Q E => ∃ (h rd cl : Addr) (s : Vbchaj.State) (L : List AC) (n z : Int) (c : Vbchaj.Call), vs = [.ref h, .int n, .int z] ∧ HouseAt CH C H h rd cl s L ∧ Kyd n z c ∧ Told R H (Vbchaj.step s c).2 Q E
abbrev s_of_key : Stmt := top 75
abbrev N_of_key : List Str := ["house", "number", "key"]
abbrev P_of_key : List Str := ["house", "number", "key"]
theorem sc_of_key : FnScope N_of_key P_of_key (defScope s_of_key) := ⟨rfl, rfl, rfl, by decide +kernel, rfl, by decide +kernel, by decide +kernel⟩

theorem ok_of_key (D : Dfn K mg "of_key" s_of_key P_of_key) (x_where : CalX P w K mg base 6 "where" (spA1 CH C R fWhere)) (x_why : CalX P w K mg base 8 "why" (spA1 CH C R fWhy)) (x_without : CalX P w K mg base 7 "without" (spA1 CH C R fWithout)) (x_roomier : CalX P w K mg base 7 "roomier" (spA1 CH C R fRoomier))
    (x_first : CalX P w K mg base 6 "first" (spA1 CH C R fFirst)) : CalX P w K mg base 9 "of_key" (spOfKey CH C R) := by
  refine calX_of D sc_of_key (fun vs H Q E h => ?_) fun f cdv A outer s H vs Q E hr h => ?_
  · obtain ⟨a, b, c, d, e, g, i, j, rfl, _⟩ := h; rfl
  · refine ⟨_, (pss_cons (ps_if (pt_cmpR op_eq (pv 1) pe_int (nomark _)) (pss_one (ps_ret (pe_x x_where hr (takes_of rfl rfl rfl rfl) (by exact (pa_cons (pv 0) (pa_cons (pv 2) pa_nil)))))) pss_nil)
  (pss_cons (ps_if (pt_cmpR op_eq (pv 1) pe_int (nomark _)) (pss_one (ps_ret (pe_x x_why hr (takes_of rfl rfl rfl rfl) (by exact (pa_cons (pv 0) (pa_cons (pv 2) pa_nil)))))) pss_nil)
  (pss_cons (ps_if (pt_cmpR op_eq (pv 1) pe_int (nomark _)) (pss_one (ps_ret (pe_x x_without hr (takes_of rfl rfl rfl rfl) (by exact (pa_cons (pv 0) (pa_cons (pv 2) pa_nil)))))) pss_nil)
  (pss_one (ps_ret (pe_ifExp (pt_cmpR op_eq (pv 1) pe_int (nomark _)) (pe_x x_roomier hr (takes_of rfl rfl rfl rfl) (by exact (pa_cons (pv 0) (pa_cons (pv 2) pa_nil)))) (pe_x x_first hr (takes_of rfl rfl rfl rfl) (by exact (pa_cons (pv 0) (pa_cons (pv 2) pa_nil)))))))))), ?_⟩
    obtain ⟨h, rd, cl, s, L, n, z, c, rfl, X, hc, k⟩ := h
    obtain ⟨i0, i1, i2, i3, i4, _⟩ := hc.inv
    refine q_when (ev_is_int (ev_var rfl)) (fun q H1 e1 => ?_) fun q0 H1 e1 => ?_
    · obtain rfl := i0 (of_decide_eq_true q)
      exact s_retX (as_v (ev_var rfl) (as_v (ev_var rfl) (as_nil fun H2 e2 => ⟨h, rd, cl, s, L, z, rfl, X.ext (e1.trans e2), k.go (e1.trans e2)⟩)))
    refine q_when (ev_is_int (ev_var rfl)) (fun q H2 e2 => ?_) fun q1 H2 e2 => ?_
    · obtain rfl := i1 (of_decide_eq_true q)
      have e := e1.trans e2
      exact s_retX (as_v (ev_var rfl) (as_v (ev_var rfl) (as_nil fun H2 e2 => ⟨h, rd, cl, s, L, z, rfl, X.ext (e.trans e2), k.go (e.trans e2)⟩)))
    have e := e1.trans e2
    refine q_when (ev_is_int (ev_var rfl)) (fun q H3 e3 => ?_) fun q2 H3 e3 => ?_
    · obtain rfl := i2 (of_decide_eq_true q)
      have e := e.trans e3
      exact s_retX (as_v (ev_var rfl) (as_v (ev_var rfl) (as_nil fun H2 e2 => ⟨h, rd, cl, s, L, z, rfl, X.ext (e.trans e2), k.go (e.trans e2)⟩)))
    have e := e.trans e3
    refine s_retIf (ev_is_int (ev_var rfl)) (fun q H4 e4 => ?_) fun q3 H4 e4 => ?_
    · obtain rfl := i3 (of_decide_eq_true q)
      have e := e.trans e4
      exact s_retX (as_v (ev_var rfl) (as_v (ev_var rfl) (as_nil fun H2 e2 => ⟨h, rd, cl, s, L, z, rfl, X.ext (e.trans e2), k.go (e.trans e2)⟩)))
    · obtain rfl := i4 (of_decide_eq_false q0) (of_decide_eq_false q1) (of_decide_eq_false q2) (of_decide_eq_false q3)
      have e := e.trans e4
      exact s_retX (as_v (ev_var rfl) (as_v (ev_var rfl) (as_nil fun H2 e2 => ⟨h, rd, cl, s, L, z, rfl, X.ext (e.trans e2), k.go (e.trans e2)⟩)))
def spOfAll (CH C : Addr) : Sp := fun vs H Q E => ∃ (h rd cl : Addr) (s : Vbchaj.State) (L : List AC) (n : Int) (c : Vbchaj.Call), vs = [.ref h, .int n] ∧ HouseAt CH C H h rd cl s L ∧ Ald n c ∧ RetL (zs (Vbchaj.step s c).2) H Q
theorem ret_A0 {sp : Sp} {E : XK} {σ : L2.St} {H : Hp} {D : Ends} {te : TE} {v : V} (h : Ev te σ H v) (hs : ∀ H1, Ex H H1 → sp [v] H1 D.rt E) : tRet (tCall sp [] E (tCons te tNil)) D σ H :=
  as_v (P := fun vs H1 => sp (vs ++ []) H1 D.rt E) h (as_nil fun H1 e => hs H1 e) H (Ex.refl H) _ fun _ _ _ p => p
abbrev s_of_all : Stmt := top 76
abbrev N_of_all : List Str := ["house", "number"]
abbrev P_of_all : List Str := ["house", "number"]
theorem sc_of_all : FnScope N_of_all P_of_all (defScope s_of_all) := ⟨rfl, rfl, rfl, by decide +kernel, rfl, by decide +kernel, by decide +kernel⟩

theorem ok_of_all (D : Dfn K mg "of_all" s_of_all P_of_all) (c_tell_moved : Cal P w K mg base 6 "tell_moved" (spA0 CH C fMoved)) (c_counted : Cal P w K mg base 1 "counted" (spCounted K C)) (c_left_clients : Cal P w K mg base 6 "left_clients" (spLeft CH C))
    (c_cover : Cal P w K mg base 7 "cover" (spA0 CH C fCover)) (c_tell_members : Cal P w K mg base 2 "tell_members" (spA0 CH C fMembers)) (c_tell_clients : Cal P w K mg base 5 "tell_clients" (spA0 CH C fClients)) :
    Cal P w K mg base 8 "of_all" (spOfAll CH C) := by
  refine cal_of D sc_of_all (fun vs H Q E h => ?_) fun f cdv A outer s H vs Q E hr h => ?_
  · obtain ⟨a, b, c, d, e, g, i, rfl, _⟩ := h; rfl
  · refine ⟨_, (pss_cons (ps_if (pt_cmpR op_eq (pv 1) pe_int (nomark _)) (pss_one (ps_ret (pe_d c_tell_moved hr (by exact (pa_cons (pv 0) pa_nil))))) pss_nil)
  (pss_cons (ps_if (pt_cmpR op_eq (pv 1) pe_int (nomark _)) (pss_one (ps_ret (pe_d c_counted hr (by exact (pa_cons (pe_d c_left_clients hr (by exact (pa_cons (pv 0) pa_nil))) pa_nil))))) pss_nil)
  (pss_cons (ps_if (pt_cmpR op_eq (pv 1) pe_int (nomark _)) (pss_one (ps_ret (pe_d c_cover hr (by exact (pa_cons (pv 0) pa_nil))))) pss_nil)
  (pss_one (ps_ret (pe_ifExp (pt_cmpR op_eq (pv 1) pe_int (nomark _)) (pe_d c_tell_members hr (by exact (pa_cons (pv 0) pa_nil))) (pe_d c_tell_clients hr (by exact (pa_cons (pv 0) pa_nil))))))))), ?_⟩
    obtain ⟨h, rd, cl, s, L, n, c, rfl, X, hc, k⟩ := h
    obtain ⟨i0, i1, i2, i3, i4, _⟩ := hc.inv
    refine q_when (ev_is_int (ev_var rfl)) (fun q H1 e1 => ?_) fun q0 H1 e1 => ?_
    · obtain rfl := i0 (of_decide_eq_true q)
      exact ret_A0 (ev_var rfl) fun H2 e2 => ⟨h, rd, cl, s, L, rfl, X.ext (e1.trans e2), retL_mono k (e1.trans e2)⟩
    refine q_when (ev_is_int (ev_var rfl)) (fun q H2 e2 => ?_) fun q1 H2 e2 => ?_
    · obtain rfl := i1 (of_decide_eq_true q)
      have e := e1.trans e2
      have X2 := X.ext e
      have okV : LOk C H2 (keysM s.members) (leftL s.members L) := X2.hs.ok.ord.sub (fun x hx => (List.mem_filter.mp hx).1) (Nat.le_trans (List.length_filter_le _ _) X2.hs.ok.ord.few)
      refine s_retL (el_cal (as_L (el_cal (as_v (ev_var rfl) (as_nil fun H3 e3 H4 e4 Q q E => ⟨h, rd, cl, s.members, L, rfl, X2.hs.ext (e3.trans e4), q⟩))) fun p H3 e3 h3 => as_nil fun H4 e4 => sl_counted (sq_of (e4 _ _ h3)) okV.few fun x hx => (okV.at_ x hx).ext (e3.trans e4))) ?_
      have hk : keysA (leftL s.members L) = (Vbchaj.keysOf s.clients).filter fun k => !(Vbchaj.keysOf (Vbchaj.movedOf s.members s.clients)).contains k := by
        unfold leftL
        rw [Cm.left_eq, X.movk, keysA_filt (ordL L) fun c => !decide (c.key ∈ ckeys (Vbchaj.movedOf s.members s.clients)), X.ord]
      have hs : (Vbchaj.step s .left).2 = Vbchaj.ints ((leftL s.members L).length :: keysA (leftL s.members L)) := by
        rw [counted_keys hk]; rfl
      rw [hs, zs_ints] at k
      exact retL_mono k e
    have e := e1.trans e2
    refine q_when (ev_is_int (ev_var rfl)) (fun q H3 e3 => ?_) fun q2 H3 e3 => ?_
    · obtain rfl := i2 (of_decide_eq_true q)
      have e := e.trans e3
      exact ret_A0 (ev_var rfl) fun H2 e2 => ⟨h, rd, cl, s, L, rfl, X.ext (e.trans e2), retL_mono k (e.trans e2)⟩
    have e := e.trans e3
    refine s_retIf (ev_is_int (ev_var rfl)) (fun q H4 e4 => ?_) fun q3 H4 e4 => ?_
    · obtain rfl := i3 (of_decide_eq_true q)
      have e := e.trans e4
      exact ret_A0 (ev_var rfl) fun H2 e2 => ⟨h, rd, cl, s, L, rfl, X.ext (e.trans e2), retL_mono k (e.trans e2)⟩
    · obtain rfl := i4 (of_decide_eq_false q0) (of_decide_eq_false q1) (of_decide_eq_false q2) (of_decide_eq_false q3)
      have e := e.trans e4
      exact ret_A0 (ev_var rfl) fun H2 e2 => ⟨h, rd, cl, s, L, rfl, X.ext (e.trans e2), retL_mono k (e.trans e2)⟩
end
end Cw
namespace Cw
open PySem PySem.Spec PyProof.Rows L2 Evl
open PySem.RefX (RefTxt)
open Cm (keysM setN isW hasB roomSl goesIn keptToo isFreeB withoutPlace movedBy allSl freeOf goalsOf GoalsOk keysOf leastOf isProof proofsOf boundsOf coversOf Inv Wn ckeys gl lessBy)
def numL : List Int := [2, 2, 1, 1, 2, 2, 1, 0, 0, 0, 1, 1, 1, 0, 0, 1, 1, 1, 2, 0, 0, 0]
def rowL : List Int := [1, 6, 12, 13, 19]
structure Tup (K : PySem.W.Frag) (mg : Str → Option Value) (aN aW : Addr) : Prop where
  NUMBERS : mg "NUMBERS" = some (.ref aN)
  WITH_ROW : mg "WITH_ROW" = some (.ref aW)
  sN : ∀ H : Hp, SqT K H aN (zs numL)
  sW : ∀ H : Hp, SqT K H aW (zs rowL)
theorem inV_ints (n : Int) (l : List Int) : inV (.int n) (zs l) = decide (n ∈ l) := by
  unfold inV zs
  rw [List.any_map, Bool.eq_iff_iff, List.any_eq_true, decide_eq_true_iff]
  constructor
  · rintro ⟨x, hx, e⟩
    have : eqV (.int x) (.int n) = true := e
    rw [eqV_int] at this
    rw [← of_decide_eq_true this]; exact hx
  · intro h
    refine ⟨n, h, ?_⟩
    show eqV (.int n) (.int n) = true
    rw [eqV_int]; simp
theorem flat_zs (l : List Int) : (zs l).all flatV = true := by
  unfold zs
  rw [List.all_map]
  exact List.all_eq_true.mpr fun x _ => rfl
section
variable {P : Program} {w : World} {K : PySem.W.Frag} {mg : Str → Option Value} {base : Heap} {C CH R fI a_NUMBERS a_WITH_ROW : Addr}
theorem ev_inRow {σ : L2.St} {H : Hp} {te : TE} {n : Int} (TT : Tup K mg a_NUMBERS a_WITH_ROW) (h : Ev te σ H (.int n)) : Ev (tOp (rIn K false) te (tC (.ref a_WITH_ROW))) σ H (.bl (decide (n ∈ rowL))) := by
  rw [← inV_ints]
  exact ev_op h ev_c (rv_isT (TT.sW H) rfl (flat_zs _))
/-! ### answer -/
def spAnswer (K : PySem.W.Frag) (CH C R : Addr) : Sp := fun vs H Q E => ∃ (h rd cl a b : Addr) (s : Vbchaj.State) (L : List AC) (n : Int) (ts rs : List Int) (c : Vbchaj.Call), vs = [.ref h, .int n, .ref a, .ref b] ∧ HouseAt CH C H h rd cl s L ∧ SqL K H a (zs ts) ∧ SqL K H b (zs rs) ∧ rs.length ≤ 100 ∧
  Ask n ts rs c ∧ ToldC CH C R H h rd cl L (Vbchaj.step s c) Q E
abbrev s_answer : Stmt := top 77
abbrev N_answer : List Str := ["house", "number", "told", "row"]
abbrev P_answer : List Str := ["house", "number", "told", "row"]
theorem sc_answer : FnScope N_answer P_answer (defScope s_answer) := ⟨rfl, rfl, rfl, by decide +kernel, rfl, by decide +kernel, by decide +kernel⟩

theorem ok_answer (B : Blt mg) (TT : Tup K mg a_NUMBERS a_WITH_ROW) (D : Dfn K mg "answer" s_answer P_answer) (x_of_change : CalX P w K mg base 7 "of_change" (spOfChange K CH C R)) (x_of_list : CalX P w K mg base 9 "of_list" (spOfList K CH C R))
    (x_may : CalX P w K mg base 7 "may" (spA2 CH C R fMay)) (x_of_key : CalX P w K mg base 9 "of_key" (spOfKey CH C R)) (c_of_all : Cal P w K mg base 8 "of_all" (spOfAll CH C)) : CalX P w K mg base 10 "answer" (spAnswer K CH C R) := by
  refine calX_of D sc_answer (fun vs H Q E h => ?_) fun f cdv A outer s H vs Q E hr h => ?_
  · obtain ⟨a, b, c, d, e, g, i, j, l, m, n, rfl, _⟩ := h; rfl
  · refine ⟨_, (pss_cons (ps_if (pt_cmpR op_le (pv 1) pe_int (nomark _)) (pss_one (ps_ret (pe_x x_of_change hr (takes_of rfl rfl rfl rfl) (by exact (pa_cons (pv 0) (pa_cons (pv 1) (pa_cons (pv 2) (pa_cons (pv 3) pa_nil)))))))) pss_nil)
  (pss_cons (ps_if (pt_cmpR op_in_seq (pv 1) (pe_glob (v := V.ref a_WITH_ROW) rfl TT.WITH_ROW rfl) (by rfl)) (pss_one (ps_ret (pe_x x_of_list hr (takes_of rfl rfl rfl rfl) (by exact (pa_cons (pv 0) (pa_cons (pv 1) (pa_cons (pv 2) (pa_cons (pv 3) pa_nil)))))))) pss_nil)
  (pss_cons (ps_if (pt_cmpR op_eq (pv 1) pe_int (nomark _)) (pss_one (ps_ret (pe_x x_may hr (takes_of rfl rfl rfl rfl) (by exact (pa_cons (pv 0) (pa_cons (pe_ix ix_list (pv 2) pe_int (fun _ _ => rfl)) (pa_cons (pe_ix ix_list (pv 2) pe_int (fun _ _ => rfl)) pa_nil))))))) pss_nil)
  (pss_one (ps_ret (pe_ifExp (pt_cmpR op_eq (pe_callB call_len_seq (by rfl) B.len (by decide +kernel) (by exact (pa_cons (pv 2) pa_nil))) pe_int (nomark _)) (pe_x x_of_key hr (takes_of rfl rfl rfl rfl) (by exact (pa_cons (pv 0) (pa_cons (pv 1) (pa_cons (pe_ix ix_list (pv 2) pe_int (fun _ _ => rfl)) pa_nil))))) (pe_d c_of_all hr (by exact (pa_cons (pv 0) (pa_cons (pv 1) pa_nil)))))))))), ?_⟩
    obtain ⟨h, rd, cl, a, b, s, L, n, ts, rs, c, rfl, X, ha, hb, hn, hc, k⟩ := h
    refine q_when (b := decide (n ≤ 7)) (et_op (ev_var rfl) ev_c rv_I0) (fun q H1 e1 => ?_) fun q0 H1 e1 => ?_
    · have q := of_decide_eq_true q
      cases hc with
      | chg hc => exact s_retX (as_v (ev_var rfl) (as_v (ev_var rfl) (as_v (ev_var rfl) (as_v (ev_var rfl) (as_nil fun H2 e2 => ⟨h, rd, cl, a, b, s, L, n, ts, rs, c, rfl, X.ext (e1.trans e2), ex_l (e1.trans e2) ha, ex_l (e1.trans e2) hb, hn, hc, k.go X (e1.trans e2)⟩)))))
      | lsd hc => exact absurd q hc.inv.2.2.2.1
      | may z y => exact absurd q (by decide)
      | kyd hc => exact absurd q hc.inv.2.2.2.2.2.1
      | ald hc => exact absurd q hc.inv.2.2.2.2.2.1
    have q0 := of_decide_eq_false q0
    refine q_when (et_test (ev_inRow TT (ev_var rfl))) (fun q H2 e2 => ?_) fun q1 H2 e2 => ?_
    · have q := of_decide_eq_true q
      have e := e1.trans e2
      have q' : n = 1 ∨ n = 6 ∨ n = 12 ∨ n = 13 ∨ n = 19 := by
        unfold rowL at q
        simpa using q
      cases hc with
      | chg hc => exact absurd hc.inv.2.2.2.2.2.2.2.2 q0
      | lsd hc => exact s_retX (as_v (ev_var rfl) (as_v (ev_var rfl) (as_v (ev_var rfl) (as_v (ev_var rfl) (as_nil fun H2 e2 => ⟨h, rd, cl, a, b, s, L, n, ts, rs, c, rfl, X.ext (e.trans e2), ex_l (e.trans e2) ha, ex_l (e.trans e2) hb, hn, hc, (k.asks X (hc.same s)).go (e.trans e2)⟩)))))
      | may z y => exact absurd q' (by decide)
      | kyd hc =>
        obtain ⟨z1, z2, z3, z4, z5⟩ := hc.inv.2.2.2.2.2
        omega
      | ald hc =>
        obtain ⟨z1, z2, z3, z4, z5⟩ := hc.inv.2.2.2.2.2
        omega
    have q1 := of_decide_eq_false q1
    have q1' : n ≠ 12 ∧ n ≠ 13 ∧ n ≠ 19 := by
      refine ⟨?_, ?_, ?_⟩ <;> (rintro rfl; exact q1 (by decide))
    have e := e1.trans e2
    refine q_when (ev_is_int (ev_var rfl)) (fun q H3 e3 => ?_) fun q2 H3 e3 => ?_
    · have q := of_decide_eq_true q
      have e := e.trans e3
      cases hc with
      | chg hc => exact absurd hc.inv.2.2.2.2.2.2.2.2 q0
      | lsd hc =>
        have := hc.inv.2.2.2.2
        omega
      | may z y => exact s_retX (as_v (ev_var rfl) (as_v (ev_told (i := 0) (ev_var rfl) (ex_l e ha) (by show 0 < 2; decide)) (as_v (ev_told (i := 1) (ev_var rfl) (ex_l e ha) (by show 1 < 2; decide)) (as_nil fun H2 e2 => ⟨h, rd, cl, s, L, z, y, rfl, X.ext (e.trans e2), (k.asks X (may_same s z y)).go (e.trans e2)⟩))))
      | kyd hc => exact absurd q hc.inv.2.2.2.2.2.2.2.2.2
      | ald hc => exact absurd q hc.inv.2.2.2.2.2.2.2.2.2
    have q2 := of_decide_eq_false q2
    have e := e.trans e3
    refine s_retIf (et_op (ev_len (ev_var rfl) (ex_l e ha)) ev_c (rv_eqI _ _)) (fun q H4 e4 => ?_) fun q3 H4 e4 => ?_
    · have q := of_decide_eq_true q
      rw [zs_len] at q
      have e := e.trans e4
      cases hc with
      | chg hc => exact absurd hc.inv.2.2.2.2.2.2.2.2 q0
      | lsd hc =>
        have := hc.inv.2.2.2.2
        omega
      | may z y => exact absurd rfl q2
      | @kyd _ z _ _ hc => exact s_retX (as_v (ev_var rfl) (as_v (ev_var rfl) (as_v (ev_told (i := 0) (ev_var rfl) (ex_l e ha) (by show 0 < 1; decide)) (as_nil fun H2 e2 => ⟨h, rd, cl, s, L, n, z, c, rfl, X.ext (e.trans e2), hc, (k.asks X (hc.same s)).go (e.trans e2)⟩))))
      | ald hc => exact absurd q (by decide)
    · have q := of_decide_eq_false q3
      rw [zs_len] at q
      have e := e.trans e4
      cases hc with
      | chg hc => exact absurd hc.inv.2.2.2.2.2.2.2.2 q0
      | lsd hc =>
        have := hc.inv.2.2.2.2
        omega
      | may z y => exact absurd rfl q2
      | kyd hc => exact absurd rfl q
      | ald hc => exact as_v (P := fun vs H1 => spOfAll CH C (vs ++ []) H1 _ _) (ev_var rfl) (as_v (ev_var rfl) (as_nil fun H2 e2 => ⟨h, rd, cl, s, L, n, c, rfl, X.ext (e.trans e2), hc, ((k.asks X (hc.same s)).go (e.trans e2)).yes (hc.fine s)⟩)) H4 (Ex.refl H4) _ fun _ _ _ p => p
/-! ### answered -/
structure ToldA (CH C : Addr) (H : Hp) (h rd cl : Addr) (L : List AC) (r : Vbchaj.State × List Int) (Q : VK) : Prop where
  yes : ∀ p H' cl' L', H p = none → p ≠ cl' → H' p = some (.lst (zs r.2)) → HouseAt CH C H' h rd cl' r.1 L' → (cl' = cl ∨ H cl' = none) → Fr cl H H' → (∀ t, Aw C H' L' t → H t = none ∨ Aw C H L t) → Q (.ref p) H'
def spAnswered (K : PySem.W.Frag) (CH C : Addr) : Sp := fun vs H Q _ => ∃ (h rd cl a b : Addr) (s : Vbchaj.State) (L : List AC) (n : Int) (ts rs : List Int) (c : Vbchaj.Call), vs = [.ref h, .int n, .ref a, .ref b] ∧ HouseAt CH C H h rd cl s L ∧ SqL K H a (zs ts) ∧ SqL K H b (zs rs) ∧ rs.length ≤ 100 ∧
  Ask n ts rs c ∧ ToldA CH C H h rd cl L (Vbchaj.step s c) Q
theorem ev_num {σ : L2.St} {H : Hp} {te : TE} {a d : Addr} {code : Int} (h : Ev te σ H (.ref a)) (hd : H d = some (.xd [(("number" : Str), .int code)])) : Ev (tNum R a (.ref R) (some d) te) σ H (.int code) := fun H1 e Q q =>
  h H1 e _ fun H2 e2 => ⟨rfl, rfl, d, .int code, rfl, e2 _ _ (e _ _ hd), q H2 e2⟩
abbrev s_answered : Stmt := top 78
abbrev N_answered : List Str := ["house", "number", "told", "row", "e"]
abbrev P_answered : List Str := ["house", "number", "told", "row"]
theorem sc_answered : FnScope N_answered P_answered (defScope s_answered) := ⟨rfl, rfl, rfl, by decide +kernel, rfl, by decide +kernel, by decide +kernel⟩

theorem ok_answered (TR : RefTxt K mg R fI) (hX : PySem.W.exmOne K (.ref R) (.ref R) = some true) (D : Dfn K mg "answered" s_answered P_answered) (x_answer : CalX P w K mg base 10 "answer" (spAnswer K CH C R)) : Cal P w K mg base 11 "answered" (spAnswered K CH C) := by
  refine cal_of D sc_answered (fun vs H Q E h => ?_) fun f cdv A outer s H vs Q E hr h => ?_
  · obtain ⟨a, b, c, d, e, g, i, j, l, m, n, rfl, _⟩ := h; rfl
  · let tb_answered : WX → TS := fun W => tRet (tCallS (spAnswer K CH C R) (WE W) (tCons (tVar 0) (tCons (tVar 1) (tCons (tVar 2) (tCons (tVar 3) tNil)))))
    let ts_answered : Addr → Value → Option Addr → TS := fun a cls d => tRet (tLst (tCons (tNum R a cls d (tVar 4)) tNil))
    refine ⟨_, (pss_one (ps_try_as (i := 4) (tb := tb_answered) (ts := ts_answered) (Wout := fun _ _ _ _ => False) rfl rfl sc_answered.nd rfl rfl ⟨rfl, by decide, Or.inl TR.gC⟩ takes0
  (fun W pn xe tk _ => pss_one (ps_ret (by exact (pe_x x_answer hr tk (by exact (pa_cons (pv 0) (pa_cons (pv 1) (pa_cons (pv 2) (pa_cons (pv 3) pa_nil)))))))))
  (fun a oe cls d pn hz hf => pss_one (ps_ret (by exact (pe_lst (by exact (pa_cons (pe_num TR hz hf (pv 4)) pa_nil)))))))), ?_⟩
    obtain ⟨h, rd, cl, a, b, s, L, n, ts, rs, c, rfl, X, ha, hb, hn, hc, k⟩ := h
    show tRet (tCallS (spAnswer K CH C R) (WE _) (tCons (tVar 0) (tCons (tVar 1) (tCons (tVar 2) (tCons (tVar 3) tNil))))) _ _ _
    refine s_retX (as_v (ev_var rfl) (as_v (ev_var rfl) (as_v (ev_var rfl) (as_v (ev_var rfl) (as_nil fun H2 e2 => ⟨h, rd, cl, a, b, s, L, n, ts, rs, c, rfl, X.ext e2, ex_l e2 ha, ex_l e2 hb, hn, hc, ⟨fun code h1 h2 H' d e3 hd hd' => ?_, fun _ p H' cl' L' h1 h2 h3 h4 h5 h6 h7 => k.yes p H' cl' L' (fresh_back e2 h1) h2 h3 h4 (h5.imp id (fresh_back e2)) (Fr.ex e2 h6) fun t a => (h7 t a).imp (fresh_back e2) (aw_back e2 X.hs.ok.at_)⟩⟩)))))
    have hs : (Vbchaj.step s c).1 = s := hc.neg s ⟨code, h1, h2⟩
    have X' := X.ext (e2.trans e3)
    refine ⟨true, hX, fun _ u hu => ?_, fun z => (by cases z)⟩
    show tRet (tLst (tCons (tNum R u (.ref R) (some d) (tVar 4)) tNil)) _ _ H'
    refine s_retL (el_lst (ea_cons (ev_num (ev_var rfl) hd') ea_nil) (by show 1 ≤ 100000; decide)) fun p H4 hp e4 h4 => ?_
    have e := e2.trans e3
    exact k.yes p H4 cl L (fresh_back e hp) (fun q => (by subst q; rw [X'.hs.lst] at hp; cases hp)) (by rw [h1]; exact h4) (by rw [hs]; exact X'.ext e4) (Or.inl rfl) (Fr.of (e.trans e4)) fun t a => Or.inr (aw_back (e.trans e4) X.hs.ok.at_ a)
end
end Cw
namespace Cw
open PySem PySem.Spec PyProof.Rows L2 Evl
open PySem.RefX (RefTxt)
open Cm (keysM setN isW hasB roomSl goesIn keptToo isFreeB withoutPlace movedBy allSl freeOf goalsOf GoalsOk keysOf leastOf isProof proofsOf boundsOf coversOf Inv Wn ckeys gl lessBy)
/-! ### calls as numbers, in plain Lean -/
theorem shape_in {p : Int} {n k : Nat} (h : PyVbchaj.shape p = some (n, k)) :
    p = 0 ∨ p = 1 ∨ p = 2 ∨ p = 3 ∨ p = 4 ∨ p = 5 ∨ p = 6 ∨ p = 7 ∨ p = 8 ∨ p = 9 ∨ p = 10 ∨ p = 11 ∨ p = 12 ∨ p = 13 ∨ p = 14 ∨ p = 15 ∨ p = 16 ∨ p = 17 ∨ p = 18 ∨ p = 19 ∨ p = 20 ∨ p = 21 := by
  refine Classical.byContradiction fun hn => ?_
  simp only [not_or] at hn
  obtain ⟨h0, h1, h2, h3, h4, h5, h6, h7, h8, h9, h10, h11, h12, h13, h14, h15, h16, h17, h18, h19, h20, h21⟩ := hn
  unfold PyVbchaj.shape at h
  rw [if_neg h0, if_neg h1, if_neg h2, if_neg h3, if_neg h4, if_neg h5, if_neg h6, if_neg h7, if_neg h8, if_neg h9, if_neg h10, if_neg h11, if_neg h12, if_neg h13, if_neg h14, if_neg h15, if_neg h16, if_neg h17, if_neg h18, if_neg h19, if_neg h20, if_neg h21] at h
  cases h
theorem shape_get {p : Int} {n k : Nat} (h : PyVbchaj.shape p = some (n, k)) : 0 ≤ p ∧ p.toNat < numL.length ∧ numL.getD p.toNat 0 = (n : Int) ∧ (p ∈ rowL ↔ k = 1) ∧ (k = 0 ∨ k = 1) := by
  rcases shape_in h with rfl | rfl | rfl | rfl | rfl | rfl | rfl | rfl | rfl | rfl | rfl | rfl | rfl | rfl | rfl | rfl | rfl | rfl | rfl | rfl | rfl | rfl <;>
    (have h2 := h; simp [PyVbchaj.shape] at h2; obtain ⟨rfl, rfl⟩ := h2; decide)
def callAt (p : Int) (k : Nat) (ts rs : List Int) : List (List Int) := if k = 1 then [p :: ts, rs] else [p :: ts]
theorem len0 {ts : List Int} (h : ts.length = 0) : ts = [] := List.eq_nil_of_length_eq_zero h
theorem len1 {ts : List Int} (h : ts.length = 1) : ∃ z, ts = [z] := match ts, h with | [z], _ => ⟨z, rfl⟩
theorem len2 {ts : List Int} (h : ts.length = 2) : ∃ z y, ts = [z, y] := match ts, h with | [z, y], _ => ⟨z, y, rfl⟩
theorem ask_of {p : Int} {n k : Nat} (h : PyVbchaj.shape p = some (n, k)) {ts rs : List Int} (hl : ts.length = n) (ha : VbchajNeutral.asked1 (callAt p k ts rs) = true) : (∃ c, Ask p ts rs c ∧ VbchajNeutral.callOf (callAt p k ts rs) = some c) ∧ (k = 1 → rs.length ≤ 40) := by
  rcases shape_in h with rfl | rfl | rfl | rfl | rfl | rfl | rfl | rfl | rfl | rfl | rfl | rfl | rfl | rfl | rfl | rfl | rfl | rfl | rfl | rfl | rfl | rfl <;>
    (have h2 := h; simp [PyVbchaj.shape] at h2; obtain ⟨rfl, rfl⟩ := h2)
  · obtain ⟨z, y, rfl⟩ := len2 hl; exact ⟨⟨_, .chg (.c0 z y rs), rfl⟩, fun q => by cases q⟩
  · obtain ⟨z, y, rfl⟩ := len2 hl; exact ⟨⟨_, .chg (.c1 z y rs), rfl⟩, fun q => of_decide_eq_true (Bool.and_eq_true_iff.mp ha).2⟩
  · obtain ⟨z, rfl⟩ := len1 hl; exact ⟨⟨_, .chg (.c2 z rs), rfl⟩, fun q => by cases q⟩
  · obtain ⟨z, rfl⟩ := len1 hl; exact ⟨⟨_, .chg (.c3 z rs), rfl⟩, fun q => by cases q⟩
  · obtain ⟨z, y, rfl⟩ := len2 hl; exact ⟨⟨_, .chg (.c4 z y rs), rfl⟩, fun q => by cases q⟩
  · obtain ⟨z, y, rfl⟩ := len2 hl; exact ⟨⟨_, .chg (.c5 z y rs), rfl⟩, fun q => by cases q⟩
  · obtain ⟨z, rfl⟩ := len1 hl; exact ⟨⟨_, .chg (.c6 z rs), rfl⟩, fun q => of_decide_eq_true (Bool.and_eq_true_iff.mp ha).2⟩
  · obtain rfl := len0 hl; exact ⟨⟨_, .chg (.c7 rs), rfl⟩, fun q => by cases q⟩
  · obtain rfl := len0 hl; exact ⟨⟨_, .ald .c8, rfl⟩, fun q => by cases q⟩
  · obtain rfl := len0 hl; exact ⟨⟨_, .ald .c9, rfl⟩, fun q => by cases q⟩
  · obtain ⟨z, rfl⟩ := len1 hl; exact ⟨⟨_, .kyd (.c10 z), rfl⟩, fun q => by cases q⟩
  · obtain ⟨z, rfl⟩ := len1 hl; exact ⟨⟨_, .kyd (.c11 z), rfl⟩, fun q => by cases q⟩
  · obtain ⟨z, rfl⟩ := len1 hl; exact ⟨⟨_, .lsd (.c12 z rs), rfl⟩, fun q => of_decide_eq_true (Bool.and_eq_true_iff.mp ha).2⟩
  · obtain rfl := len0 hl; exact ⟨⟨_, .lsd (.c13 rs), rfl⟩, fun q => of_decide_eq_true (Bool.and_eq_true_iff.mp ha).2⟩
  · obtain rfl := len0 hl; exact ⟨⟨_, .ald .c14, rfl⟩, fun q => by cases q⟩
  · obtain ⟨z, rfl⟩ := len1 hl; exact ⟨⟨_, .kyd (.c15 z), rfl⟩, fun q => by cases q⟩
  · obtain ⟨z, rfl⟩ := len1 hl; exact ⟨⟨_, .kyd (.c16 z), rfl⟩, fun q => by cases q⟩
  · obtain ⟨z, rfl⟩ := len1 hl; exact ⟨⟨_, .kyd (.c17 z), rfl⟩, fun q => by cases q⟩
  · obtain ⟨z, y, rfl⟩ := len2 hl; exact ⟨⟨_, .may z y rs, rfl⟩, fun q => by cases q⟩
  · obtain rfl := len0 hl; exact ⟨⟨_, .lsd (.c19 rs), rfl⟩, fun q => of_decide_eq_true (Bool.and_eq_true_iff.mp ha).2⟩
  · obtain rfl := len0 hl; exact ⟨⟨_, .ald .c20, rfl⟩, fun q => by cases q⟩
  · obtain rfl := len0 hl; exact ⟨⟨_, .ald .c21, rfl⟩, fun q => by cases q⟩
theorem whole_id (c : List (List Int)) : PyVbchaj.whole c = c := by
  unfold PyVbchaj.whole
  split <;> rfl
theorem whole_map (cs : List (List (List Int))) : cs.map PyVbchaj.whole = cs := by
  conv => rhs; rw [← List.map_id cs]
  exact List.map_congr_left fun c _ => whole_id c
/-- one call at the head -/
theorem call_head {f : Nat} {p : Int} {r : List Int} {cs : List (List (List Int))} (h : PyFlat.calls PyVbchaj.shape f (p :: r) = some cs) :
    ∃ (n k : Nat) (rs : List Int) (f' : Nat) (cs' : List (List (List Int))) (used : Nat), PyVbchaj.shape p = some (n, k) ∧ n ≤ r.length ∧ cs = callAt p k (r.take n) rs :: cs' ∧ PyFlat.calls PyVbchaj.shape f' (r.drop used) = some cs' ∧ used ≤ r.length ∧
      ((k = 0 ∧ rs = [] ∧ used = n) ∨ (k = 1 ∧ ∃ m : Nat, n < r.length ∧ r.getD n 0 = (m : Int) ∧ used = n + 1 + m ∧ rs = (r.drop (n + 1)).take m)) := by
  cases f with
  | zero => cases h
  | succ f =>
    unfold PyFlat.calls at h
    split at h
    · cases h
    rename_i c t hc
    split at h
    · cases h
    rename_i cs' hcs
    have h := Option.some.inj h
    subst h
    have hc : (match PyVbchaj.shape p with
      | none => none
      | some (n, k) => if r.length < n then none else match PyFlat.rows k (r.drop n) with
        | none => none
        | some (xs, t) => some ((p :: r.take n) :: xs, t)) = some (c, t) := hc
    split at hc
    · cases hc
    rename_i n k hs
    obtain ⟨_, _, _, _, hk⟩ := shape_get hs
    split at hc
    · cases hc
    rename_i hn
    rcases hk with rfl | rfl
    · have hc : some ((p :: r.take n) :: [], r.drop n) = some (c, t) := hc
      obtain ⟨rfl, rfl⟩ := Prod.mk.inj (Option.some.inj hc)
      exact ⟨n, 0, [], f, cs', n, hs, by omega, rfl, hcs, by omega, Or.inl ⟨rfl, rfl, rfl⟩⟩
    · split at hc
      · cases hc
      rename_i xs t' hr
      obtain ⟨rfl, rfl⟩ := Prod.mk.inj (Option.some.inj hc)
      unfold PyFlat.rows at hr
      split at hr
      · cases hr
      rename_i x s hx
      have hr : some (x :: [], s) = some (xs, t') := hr
      obtain ⟨rfl, rfl⟩ := Prod.mk.inj (Option.some.inj hr)
      unfold PyFlat.row at hx
      split at hx
      · cases hx
      rename_i m r' hd
      split at hx
      · rename_i hm
        obtain ⟨rfl, rfl⟩ := Prod.mk.inj (Option.some.inj hx)
        have hl : n < r.length := by
          have := congrArg List.length hd
          rw [List.length_drop, List.length_cons] at this
          omega
        have hd' := hd
        rw [List.drop_eq_getElem_cons hl] at hd'
        obtain ⟨e1, e2⟩ := List.cons.inj hd'
        have hg : r.getD n 0 = (m.toNat : Int) := by
          rw [List.getD_eq_getElem?_getD, List.getElem?_eq_getElem hl, e1]
          show m = _
          omega
        have hl2 : r'.length = r.length - (n + 1) := by rw [← e2, List.length_drop]
        refine ⟨n, 1, r'.take m.toNat, f, cs', n + 1 + m.toNat, hs, by omega, rfl, ?_, by omega, Or.inr ⟨rfl, m.toNat, hl, hg, rfl, by rw [e2]⟩⟩
        rw [← List.drop_drop, e2]
        exact hcs
      · cases hx
theorem told_cons (a : List Int) (r : List (List Int)) : PyFlat.told (a :: r) = (a.length : Int) :: a ++ PyFlat.told r := by
  unfold PyFlat.told
  rw [List.flatMap_cons]
theorem step_of {s : Vbchaj.State} {c : List (List Int)} {k : Vbchaj.Call} (h : VbchajNeutral.callOf c = some k) : VbchajNeutral.step s c = Vbchaj.step s k := by
  unfold VbchajNeutral.step
  rw [h]
theorem asked_get {l : List Int} (h : PyVbchaj.answers_asked l = true) : ∃ cs, PyFlat.calls PyVbchaj.shape l.length l = some cs ∧ (∀ c ∈ cs, VbchajNeutral.asked1 c = true) ∧ (PyVbchaj.answers l).length ≤ 10000000 ∧ PyVbchaj.answers l = PyFlat.told (PyFlat.played VbchajNeutral.step Vbchaj.start cs) := by
  unfold PyVbchaj.answers_asked at h
  split at h
  · cases h
  rename_i raw hr
  rw [whole_map, Bool.and_eq_true, Bool.and_eq_true, Bool.and_eq_true, Bool.and_eq_true] at h
  obtain ⟨⟨⟨⟨_, _⟩, _⟩, ha⟩, hs⟩ := h
  unfold VbchajNeutral.asked at ha
  rw [Bool.and_eq_true] at ha
  refine ⟨raw, hr, List.all_eq_true.mp ha.1, of_decide_eq_true hs, ?_⟩
  unfold PyVbchaj.answers PyVbchaj.calls
  rw [hr]
  show PyFlat.told (PyFlat.played VbchajNeutral.step VbchajNeutral.start (raw.map PyVbchaj.whole)) = _
  rw [whole_map]; rfl
theorem cut_zs {l : List Int} {i j : Nat} (h : j ≤ l.length) (hij : i ≤ j) : cutV (zs l) (some (i : Int)) (some (j : Int)) = zs ((l.drop i).take (j - i)) := by
  unfold cutV
  have e1 := HT.sIx_nat (zs l).length 0 i
  have e2 := HT.sIx_nat (zs l).length (zs l).length j
  rw [zs_len] at e1 e2 ⊢
  have a1 : min i l.length = i := Nat.min_eq_left (by omega)
  have a2 : min j l.length = j := Nat.min_eq_left h
  rw [e1, e2, a1, a2]
  unfold zs
  rw [List.map_take, List.map_drop]
end Cw
namespace Cw
open PySem PySem.Spec PyProof.Rows L2 Evl
open PySem.RefX (RefTxt)
open Cm (keysM setN isW hasB roomSl goesIn keptToo isFreeB withoutPlace movedBy allSl freeOf goalsOf GoalsOk keysOf leastOf isProof proofsOf boundsOf coversOf Inv Wn ckeys gl lessBy)
/-! ### the calls' list, the answers' list -/
def CAt (K : PySem.W.Frag) (H : Hp) (a : Addr) (xs : List V) (cl fl : Addr) : Prop := (∀ H' : Hp, SqL K H' a xs) ∨ (Rd H a (.lst xs) ∧ a ≠ cl ∧ a ≠ fl)
section
variable {K : PySem.W.Frag} {H H' : Hp} {a cl fl : Addr} {xs : List V}
theorem CAt.sq (c : CAt K H a xs cl fl) : SqL K H a xs := c.elim (fun h => h H) fun h => Or.inl h.1
theorem CAt.ext (c : CAt K H a xs cl fl) (e : Ex H H') : CAt K H' a xs cl fl := c.imp id fun h => ⟨ex_rd e h.1, h.2⟩
theorem CAt.fr {cl' : Addr} (c : CAt K H a xs cl fl) (f : Fr cl H H') (hc : cl' = cl ∨ H cl' = none) : CAt K H' a xs cl' fl := by
  refine c.imp id fun ⟨h, h1, h2⟩ => ?_
  have hn : H a ≠ none := by
    rcases h with h | ⟨o, h⟩ <;> (rw [h]; simp)
  refine ⟨?_, ?_, h2⟩
  · rcases h with h | ⟨o, h⟩
    · exact Or.inl (f _ _ h h1 (fun _ _ _ => by simp) (fun _ => by simp))
    · exact Or.inr ⟨o, f _ _ h h1 (fun _ _ _ => by simp) (fun _ => by simp)⟩
  · rcases hc with rfl | hc
    · exact h1
    · rintro rfl; exact hn hc
theorem CAt.upd {o : HO} (c : CAt K H a xs cl fl) : CAt K (upd H fl o) a xs cl fl := by
  refine c.imp id fun ⟨h, h1, h2⟩ => ⟨?_, h1, h2⟩
  rcases h with h | ⟨o, h⟩
  · exact Or.inl (by rw [upd_ne h2]; exact h)
  · exact Or.inr ⟨o, by rw [upd_ne h2]; exact h⟩
theorem cat_of {xs : List V} (h : SqL K H a xs) (hc : H cl = none) (hf : H fl = none) (e : Ex H H') : CAt K H' a xs cl fl := by
  rcases h with h | h
  · have hn : H a ≠ none := by
      rcases h with h | ⟨o, h⟩ <;> (rw [h]; simp)
    exact Or.inr ⟨ex_rd e h, fun z => hn (by rw [z]; exact hc), fun z => hn (by rw [z]; exact hf)⟩
  · exact Or.inl fun H' => Or.inr h
end
section
variable {CH C R : Addr} {H : Hp} {h rd cl : Addr} {s : Vbchaj.State} {L : List AC}
/-- a list that is none of the house's changed -/
theorem HouseAt.off (x : HouseAt CH C H h rd cl s L) {p : Addr} {xs : List V} {o : HO} (hp : H p = some (.lst xs)) (hc : p ≠ cl) (ha : ¬ Aw C H L p) : HouseAt CH C (upd H p o) h rd cl s L := by
  obtain ⟨dx, e⟩ := x.hs.obj
  have n1 : h ≠ p := fun z => by rw [z, hp] at e; cases e
  have n2 : rd ≠ p := fun z => by
    obtain ⟨l, _, e2⟩ := x.hs.rooms.ex
    rw [z, hp] at e2; cases e2
  refine ⟨⟨⟨dx, by rw [upd_ne n1]; exact e⟩, x.hs.rooms.other n2, by rw [upd_ne hc.symm]; exact x.hs.lst, x.hs.ok.few, fun y hy => ?_, x.hs.ok.tk, x.hs.ok.tl⟩, x.perm, x.inv⟩
  obtain ⟨dy, t, e1, e2⟩ := x.hs.ok.at_ y hy
  have n3 : y.1 ≠ p := fun z => by rw [z, hp] at e1; cases e1
  have n4 : t ≠ p := fun z => ha ⟨y, hy, dy, by rw [← z]; exact e1⟩
  exact ⟨dy, t, by rw [upd_ne n3]; exact e1, by rw [upd_ne n4]; exact e2⟩
theorem aw_off (x : HouseAt CH C H h rd cl s L) {p t : Addr} {xs : List V} {o : HO} (hp : H p = some (.lst xs)) (a : Aw C (upd H p o) L t) : Aw C H L t :=
  aw_upd (fun y hy z => by
    obtain ⟨dy, t, e1, e2⟩ := x.hs.ok.at_ y hy
    rw [z, hp] at e1; cases e1) a
end
section
variable {K : PySem.W.Frag} {σ : L2.St} {H : Hp} {ta te tb : TE} {D : Ends} {tz : TS}
theorem q_asgC {sp : Sp} {E : XK} {ta : TA} {i : Nat} (h : EvAs ta σ H fun vs H1 => sp (vs ++ []) H1 (fun v H2 => tz D (σ.set i (some v)) H2) E) : tSeq (tAsg (tCall sp [] E ta) (gName i)) tz D σ H := h H (Ex.refl H) _ fun _ _ _ p => p
theorem q_appN {l : Addr} {xs : List V} {v : V} (hl : H l = some (.lst xs)) (ha : Ev ta σ H (.ref l)) (h : Ev te σ H v) (hz : xs.length < sizeLine) (k : ∀ H1, Ex H H1 → tz D σ (upd H1 l (.lst (xs ++ [v])))) :
    tSeq (tDrop (tBM K "list" rAppend ta (tCons te tNil))) tz D σ H :=
  q_bm ha fun H1 e1 => ⟨Or.inl ⟨rfl, xs, sq_of (e1 l _ hl)⟩, h H1 e1 _ fun H2 e2 => ⟨l, xs, v, rfl, rfl, e2 l _ (e1 l _ hl), hz, k H2 (e1.trans e2)⟩⟩
theorem q_extV {l b : Addr} {xs ys : List V} (hl : H l = some (.lst xs)) (hb : H b = some (.lst ys)) (ha : Ev ta σ H (.ref l)) (h : Ev te σ H (.ref b)) (hz : xs.length + ys.length ≤ sizeLine) (k : ∀ H1, Ex H H1 → tz D σ (upd H1 l (.lst (xs ++ ys)))) :
    tSeq (tDrop (tBM K "list" rExtend ta (tCons te tNil))) tz D σ H :=
  q_bm ha fun H1 e1 => ⟨Or.inl ⟨rfl, xs, sq_of (e1 l _ hl)⟩, h H1 e1 _ fun H2 e2 => ⟨l, b, xs, ys, rfl, rfl, e2 l _ (e1 l _ hl), e2 b _ (e1 b _ hb), hz, k H2 (e1.trans e2)⟩⟩
/-- house = House() -/
theorem q_house {CH C : Addr} {E : XK} {i : Nat} (k : ∀ x rd cl H', Ex H H' → H cl = none → HouseAt CH C H' x rd cl Vbchaj.start [] → tz D (σ.set i (some (.ref x))) H') : tSeq (tAsg (tMake CH (spHInit CH) [] E tNil) (gName i)) tz D σ H := by
  intro x dx hx hdx hne
  have h1 : ∀ b u, H b = some u → b ≠ x ∧ upd (upd H dx (HO.own x)) x (HO.ins CH dx []) b = some u := fun b u hb => by
    have n1 : b ≠ x := ne_of_none hb hx
    have n2 : b ≠ dx := ne_of_none hb hdx
    exact ⟨n1, by rw [upd_ne n1, upd_ne n2]; exact hb⟩
  refine ⟨x, dx, rfl, upd_same, fun H' rd cl hrd hcl hh hr hc keep => ⟨rfl, ?_⟩⟩
  have hcl0 : H cl = none := (fresh_upd (fresh_upd hcl).1).1
  refine k x rd cl H' (fun b u hb => keep b u (h1 b u hb).2 (h1 b u hb).1) hcl0 ⟨⟨⟨dx, hh⟩, ⟨.nil, by decide, [], List.Perm.refl _, hr⟩, hc, by decide, fun _ h => (nomatch h), fun _ h => (nomatch h), fun _ h => (nomatch h)⟩, List.Perm.refl _, Cm.inv_start⟩
end
section
variable {P : Program} {w : World} {K : PySem.W.Frag} {mg : Str → Option Value} {base : Heap} {C CH R fI a_NUMBERS a_WITH_ROW : Addr}
def spAns (K : PySem.W.Frag) : Sp := fun vs H Q _ => ∃ (a : Addr) (l : List Int), vs = [.ref a] ∧ SqL K H a (zs l) ∧ PyVbchaj.answers_asked l = true ∧ ∀ H' p, H' p = some (.lst (zs (PyVbchaj.answers l))) → Q (.ref p) H'
theorem zs_app (a b : List Int) : zs (a ++ b) = zs a ++ zs b := List.map_append
abbrev s_answers : Stmt := top 79
abbrev N_answers : List Str := ["calls", "house", "found", "at", "number", "behind", "told", "row", "numbers"]
abbrev P_answers : List Str := ["calls"]
theorem sc_answers : FnScope N_answers P_answers (defScope s_answers) := ⟨rfl, rfl, rfl, by decide +kernel, rfl, by decide +kernel, by decide +kernel⟩

theorem body_answers (TT : Tup K mg a_NUMBERS a_WITH_ROW) (B : Blt mg) (c_House : Mkd P w K mg base 1 "House" CH (spHInit CH)) (c_answered : Cal P w K mg base 11 "answered" (spAnswered K CH C))
    (f : Addr) (cdv : Value) (A : Around) (outer : List Env) (s : Shared) (H : Hp) (vs : List V) (Q : VK) (E : XK) (hr : Room 11 (A.deeper (envOfC "answers" (defScope s_answers) s.heap.objs.size f cdv))) (h : spAns K vs H Q E) :
    ∃ t, PSs (cxOf CX0 P w K mg base N_answers "answers" (defScope s_answers) f cdv A outer s H E).nox (defBody s_answers) t ∧ t { nx := fun _ H' => Q .non H', rt := Q } (start N_answers vs) H := by
  · refine ⟨_, (pss_cons (ps_set (i := 1) sc_answers.nd rfl (Or.inl rfl) (pe_mkd0 c_House hr))
  (pss_cons (ps_set (i := 2) sc_answers.nd rfl (Or.inl rfl) (pe_lst (by exact pa_nil)))
  (pss_cons (ps_set (i := 3) sc_answers.nd rfl (Or.inl rfl) pe_int)
  (pss_cons (ps_while PassesOwn.never (pt_cmpR op_lt (pv 3) (pe_callB call_len_seq (by rfl) B.len (by decide +kernel) (by exact (pa_cons (pv 0) pa_nil))) (nomark _))
  (pss_cons (ps_set (i := 4) sc_answers.nd rfl (Or.inl rfl) (pe_ix ix_list (pv 0) (pv 3) (fun _ _ => rfl)))
  (pss_cons (ps_set (i := 5) sc_answers.nd rfl (Or.inl rfl) (pe_op op_add (pe_op op_add (pv 3) pe_int) (pe_ix ix_tup (pe_glob (v := V.ref a_NUMBERS) rfl TT.NUMBERS rfl) (pv 4) (fun _ _ => rfl))))
  (pss_cons (ps_set (i := 6) sc_answers.nd rfl (Or.inl rfl) (pe_slice sl_list (pv 0) (po_some (pe_op op_add (pv 3) pe_int)) (po_some (pv 5))))
  (pss_cons (ps_set (i := 7) sc_answers.nd rfl (Or.inl rfl) (pe_lst (by exact pa_nil)))
  (pss_cut (ps_if (pt_cmpR op_in_seq (pv 4) (pe_glob (v := V.ref a_WITH_ROW) rfl TT.WITH_ROW rfl) (by rfl)) (pss_cons (ps_set (i := 7) sc_answers.nd rfl (Or.inl rfl) (pe_slice sl_list (pv 0) (po_some (pe_op op_add (pv 5) pe_int)) (po_some (pe_op op_add (pe_op op_add (pv 5) pe_int) (pe_ix ix_list (pv 0) (pv 5) (fun _ _ => rfl))))))
  (pss_one (ps_set (i := 5) sc_answers.nd rfl (Or.inl rfl) (pe_op op_add (pe_op op_add (pv 5) pe_int) (pe_ix ix_list (pv 0) (pv 5) (fun _ _ => rfl)))))) pss_nil)
  (pss_cons (ps_set (i := 8) sc_answers.nd rfl (Or.inl rfl) (pe_d c_answered hr (by exact (pa_cons (pv 1) (pa_cons (pv 4) (pa_cons (pv 6) (pa_cons (pv 7) pa_nil)))))))
  (pss_cons (ps_expr (pe_bm PySem.F.plainAttrs_list PySem.F.slot_list_append PySem.F.type_list_append mt_append (pv 2) (by exact (pa_cons (pe_callB call_len_seq (by rfl) B.len (by decide +kernel) (by exact (pa_cons (pv 8) pa_nil))) pa_nil))))
  (pss_cons (ps_expr (pe_bm PySem.F.plainAttrs_list PySem.F.slot_list_extend PySem.F.type_list_extend mt_extend (pv 2) (by exact (pa_cons (pv 8) pa_nil))))
  (pss_one (ps_set (i := 3) sc_answers.nd rfl (Or.inl rfl) (pv 5))))))))))))
  (pss_one (ps_ret (pv 2))))))), ?_⟩
    obtain ⟨a, l, rfl, hs, hask, k⟩ := h
    obtain ⟨cs0, hcs0, has0, hlen, hans⟩ := asked_get hask
    refine q_house (C := C) fun h rd cl0 H1 e1 hcl X1 => ?_
    refine q_asgL (el_lst ea_nil (by decide)) fun fl H2 hfl e2 h2 => ?_
    refine q_asg ev_c fun H3 e3 => ?_
    have hflH : H fl = none := fresh_back e1 hfl
    refine q_while (fun m σ' H' => ∃ (at' : Nat) (v4 v5 v6 v7 v8 : Option V) (f : Nat) (cs : List (List (List Int))) (done : List Int) (s : Vbchaj.State) (cl : Addr) (L : List AC), m = l.length - at' ∧ at' ≤ l.length ∧
        σ' = [some (.ref a), some (.ref h), some (.ref fl), some (.int (at' : Int)), v4, v5, v6, v7, v8] ∧ CAt K H' a (zs l) cl fl ∧ HouseAt CH C H' h rd cl s L ∧ H' fl = some (.lst (zs done)) ∧ fl ≠ cl ∧ ¬ Aw C H' L fl ∧
        PyFlat.calls PyVbchaj.shape f (l.drop at') = some cs ∧ (∀ c ∈ cs, VbchajNeutral.asked1 c = true) ∧ PyVbchaj.answers l = done ++ PyFlat.told (PyFlat.played VbchajNeutral.step s cs)) l.length ?_ ?_
    · refine ⟨0, none, none, none, none, none, l.length, cs0, [], Vbchaj.start, cl0, [], rfl, Nat.zero_le _, rfl, ?_, X1.ext (e2.trans e3), e3 _ _ h2, ?_, ?_, hcs0, has0, hans⟩
      · exact cat_of hs hcl hflH (e1.trans (e2.trans e3))
      · rintro rfl
        rw [X1.hs.lst] at hfl; cases hfl
      · rintro ⟨y, hy, _⟩
        cases hy
    · rintro m σ' H' ⟨at', v4, v5, v6, v7, v8, f, cs, done, s, cl, L, rfl, hat, rfl, ca, X, hf, hfc, haw, hcs, has, heq⟩
      refine ⟨decide ((at' : Int) < (l.length : Int)), et_op (ev_var rfl) (ev_to (ev_len (ev_var rfl) ca.sq) (by rw [zs_len])) rv_I0, fun hb H4 e4 => ?_, fun hb H4 e4 => ?_⟩
      · have hlt : at' < l.length := by have := of_decide_eq_true hb; omega
        have X4 := X.ext e4
        have ca4 := ca.ext e4
        have hf4 := e4 _ _ hf
        have haw4 : ¬ Aw C H4 L fl := fun q => haw (aw_back e4 X.hs.ok.at_ q)
        have hd : l.drop at' = l[at'] :: l.drop (at' + 1) := List.drop_eq_getElem_cons hlt
        rw [hd] at hcs
        generalize hp : l[at'] = p at hcs hd
        obtain ⟨n, kk, rs, f', cs', used, hsh, hn, rfl, hcs', hused, hcase⟩ := call_head hcs
        obtain ⟨s1, s2, s3, s4, s5⟩ := shape_get hsh
        rw [List.length_drop] at hn hused
        have hts : ((l.drop (at' + 1)).take n).length = n := by rw [List.length_take, List.length_drop]; omega
        obtain ⟨⟨c, hask', hco⟩, h40⟩ := ask_of (rs := rs) hsh hts (has _ List.mem_cons_self)
        have hst := step_of (s := s) hco
        have hpl : PyFlat.told (PyFlat.played VbchajNeutral.step s (callAt p kk ((l.drop (at' + 1)).take n) rs :: cs')) = ((Vbchaj.step s c).2.length : Int) :: (Vbchaj.step s c).2 ++ PyFlat.told (PyFlat.played VbchajNeutral.step (Vbchaj.step s c).1 cs') := by
          show PyFlat.told ((VbchajNeutral.step s _).2 :: PyFlat.played VbchajNeutral.step (VbchajNeutral.step s _).1 cs') = _
          rw [hst, told_cons]
        rw [hpl] at heq
        have hlen2 : done.length + (1 + (Vbchaj.step s c).2.length) ≤ 10000000 := by
          rw [heq] at hlen
          simp only [List.length_append, List.length_cons] at hlen
          omega
        refine ⟨fun σ2 H2 => ∃ m', m' < l.length - at' ∧ ∃ (at2 : Nat) (v4 v5 v6 v7 v8 : Option V) (f : Nat) (cs : List (List (List Int))) (done : List Int) (s : Vbchaj.State) (cl : Addr) (L : List AC), m' = l.length - at2 ∧ at2 ≤ l.length ∧
          σ2 = [some (.ref a), some (.ref h), some (.ref fl), some (.int (at2 : Int)), v4, v5, v6, v7, v8] ∧ CAt K H2 a (zs l) cl fl ∧ HouseAt CH C H2 h rd cl s L ∧ H2 fl = some (.lst (zs done)) ∧ fl ≠ cl ∧ ¬ Aw C H2 L fl ∧
          PyFlat.calls PyVbchaj.shape f (l.drop at2) = some cs ∧ (∀ c ∈ cs, VbchajNeutral.asked1 c = true) ∧ PyVbchaj.answers l = done ++ PyFlat.told (PyFlat.played VbchajNeutral.step s cs), fun σ2 H2 q => q, ?_⟩
        -- number
        refine q_asg (v := .int p) (ev_op (ev_var rfl) (ev_var rfl) (rv_ixL ca4.sq (by rw [at_zs hlt, List.getD_eq_getElem?_getD, List.getElem?_eq_getElem hlt, hp]; rfl))) fun H5 e5 => ?_
        have hpn : (p : Int) = ((p.toNat : Nat) : Int) := (Int.toNat_of_nonneg s1).symm
        -- behind
        refine q_asg (v := .int ((at' + 1 + n : Nat) : Int)) (ev_to (ev_op (ev_op (ev_var rfl) ev_c rv_I0) (ev_op (y := .int p) (z := .int (n : Int)) ev_c (ev_var rfl) (rv_ixT (TT.sN _) (by rw [hpn, at_zs s2, s3]))) rv_I0) rfl) fun H6 e6 => ?_
        have e46 := e5.trans e6
        -- told
        refine q_asgL (el_to (el_sl (lo := some ((at' + 1 : Nat) : Int)) (hi := some ((at' + 1 + n : Nat) : Int)) (ev_var rfl) (eo_some (ev_to (ev_op (ev_var rfl) ev_c rv_I0) rfl)) (eo_some (ev_var rfl)) (ca4.ext e46).sq) (by rw [cut_zs (by clear hcase; omega) (by clear hcase; omega)])) fun t H7 ht e7 h7 => ?_
        have esub : at' + 1 + n - (at' + 1) = n := by clear hcase; omega
        rw [esub] at h7
        -- row
        refine q_asgL (el_lst ea_nil (by decide)) fun b0 H8 hb0 e8 h8 => ?_
        have e48 := (e46.trans e7).trans e8
        have ca8 := ca4.ext e48
        refine q_cut (M := fun σ' H' => ∃ b, σ' = [some (.ref a), some (.ref h), some (.ref fl), some (.int (at' : Int)), some (.int p), some (.int ((at' + 1 + used : Nat) : Int)), some (.ref t), some (.ref b), v8] ∧ Ex H8 H' ∧ SqL K H' b (zs rs)) ?_ ?_
        · refine s_if (et_test (ev_inRow TT (ev_var rfl))) (fun hb H9 e9 => ?_) (fun hb H9 e9 => ?_)
          · have hk := s4.mp (of_decide_eq_true hb)
            subst hk
            rcases hcase with ⟨h0, _⟩ | ⟨_, m, hnl, hg, hu, hrs⟩
            · cases h0
            rw [List.length_drop] at hnl
            have ca9 := ca8.ext e9
            have hb1 : at' + 1 + n < l.length := by omega
            have hgl : l.getD (at' + 1 + n) 0 = (m : Int) := by
              rw [← hg, List.getD_eq_getElem?_getD, List.getD_eq_getElem?_getD, List.getElem?_drop]
            have evn : ∀ {σ : L2.St} {H' : Hp}, SqL K H' a (zs l) → σ[0]? = some (some (.ref a)) → σ[5]? = some (some (.int ((at' + 1 + n : Nat) : Int))) → Ev (tOp (rIxL K) (tVar 0) (tVar 5)) σ H' (.int (m : Int)) := fun hq h0 h5 =>
              ev_op (ev_var h0) (ev_var h5) (rv_ixL hq (by rw [at_zs hb1, hgl]))
            subst hu
            refine q_asgL (el_to (el_sl (lo := some ((at' + 1 + n + 1 : Nat) : Int)) (hi := some ((at' + 1 + n + 1 + m : Nat) : Int)) (ev_var rfl) (eo_some (ev_to (ev_op (ev_var rfl) ev_c rv_I0) rfl)) (eo_some (ev_to (ev_op (ev_op (ev_var rfl) ev_c rv_I0) (evn ca9.sq rfl rfl) rv_I0) rfl)) ca9.sq) (by rw [cut_zs (by omega) (by omega)])) fun b H10 hb' e10 h10 => ?_
            refine s_asg (ev_to (ev_op (ev_op (ev_var rfl) ev_c rv_I0) (evn (ca9.ext e10).sq rfl rfl) rv_I0) rfl) fun H11 e11 => ?_
            refine ⟨b, ?_, e9.trans (e10.trans e11), ?_⟩
            · have : ((at' + 1 + n : Nat) : Int) + 1 + (m : Int) = ((at' + 1 + (n + 1 + m) : Nat) : Int) := by omega
              rw [this]; rfl
            · have : (l.drop (at' + 1 + n + 1)).take (at' + 1 + n + 1 + m - (at' + 1 + n + 1)) = rs := by
                rw [hrs, List.drop_drop]
                have e1 : at' + 1 + n + 1 + m - (at' + 1 + n + 1) = m := by omega
                have e2 : at' + 1 + (n + 1) = at' + 1 + n + 1 := by omega
                rw [e1, e2]
              rw [this] at h10
              exact sq_of (e11 _ _ h10)
          · have hk : kk ≠ 1 := fun q => of_decide_eq_false hb (s4.mpr q)
            rcases hcase with ⟨h0, hr0, hu⟩ | ⟨h1, _⟩
            · subst hu; subst hr0
              exact ⟨b0, rfl, e9, sq_of (e9 _ _ h8)⟩
            · exact absurd h1 hk
        · rintro σ' H9 ⟨b, rfl, e9, hb⟩
          have e49 := e48.trans e9
          have X9 := X4.ext e49
          have hrs : rs.length ≤ 100 := by
            rcases s5 with h0 | h1
            · rcases hcase with ⟨_, hr0, _⟩ | ⟨h1, _⟩
              · rw [hr0]; decide
              · rw [h0] at h1; cases h1
            · have := h40 h1; omega
          -- numbers
          refine q_asgC (as_v (ev_var rfl) (as_v (ev_var rfl) (as_v (ev_var rfl) (as_v (ev_var rfl) (as_nil fun H10 e10 => ⟨h, rd, cl, t, b, s, L, p, _, rs, c, rfl, X9.ext e10, sq_of ((e8.trans (e9.trans e10)) _ _ h7), ex_l e10 hb, hrs, hask', ⟨fun q H11 cl' L' hq hqc hqn X11 hcl' fr aw => ?_⟩⟩)))))
          have e410 := e49.trans e10
          have f11 : H11 fl = some (.lst (zs done)) := fr _ _ (e410 _ _ hf4) hfc (fun _ _ _ => by simp) (fun _ => by simp)
          have ca11 := (ca4.ext e410).fr fr hcl'
          have hfc' : fl ≠ cl' := by
            rcases hcl' with rfl | hcl'
            · exact hfc
            · rintro rfl
              rw [e410 _ _ hf4] at hcl'; cases hcl'
          have haw11 : ¬ Aw C H11 L' fl := fun z => (aw fl z).elim (fun z => by rw [e410 _ _ hf4] at z; cases z) fun z => haw4 (aw_back e410 X4.hs.ok.at_ z)
          have hqf : q ≠ fl := fun z => by rw [z, e410 _ _ hf4] at hq; cases hq
          refine q_appN f11 (ev_var rfl) (ev_len (ev_var rfl) (sq_of hqn)) (by rw [zs_len]; show _ < 16777216; clear hcase; omega) fun H12 e12 => ?_
          have X12 := X11.ext e12
          have haw12 : ¬ Aw C H12 L' fl := fun z => haw11 (aw_back e12 X11.hs.ok.at_ z)
          have X13 := X12.off (o := .lst (zs done ++ [.int ((zs (Vbchaj.step s c).2).length : Int)])) (e12 _ _ f11) hfc' haw12
          have haw13 : ¬ Aw C (upd H12 fl (.lst (zs done ++ [.int ((zs (Vbchaj.step s c).2).length : Int)]))) L' fl := fun z => haw12 (aw_off X12 (e12 _ _ f11) z)
          have q13 : upd H12 fl (HO.lst (zs done ++ [.int ((zs (Vbchaj.step s c).2).length : Int)])) q = some (.lst (zs (Vbchaj.step s c).2)) := by rw [upd_ne hqf]; exact e12 _ _ hqn
          refine q_extV upd_same q13 (ev_var rfl) (ev_var rfl) (by rw [List.length_append, zs_len, zs_len]; show _ + 1 + _ ≤ 16777216; clear hcase; omega) fun H14 e14 => ?_
          have X14 := X13.ext e14
          have haw14 : ¬ Aw C H14 L' fl := fun z => haw13 (aw_back e14 X13.hs.ok.at_ z)
          have f14 := e14 _ _ (upd_same (H := H12) (a := fl) (o := .lst (zs done ++ [.int ((zs (Vbchaj.step s c).2).length : Int)])))
          have hz : zs done ++ [.int ((zs (Vbchaj.step s c).2).length : Int)] ++ zs (Vbchaj.step s c).2 = zs (done ++ ((Vbchaj.step s c).2.length : Int) :: (Vbchaj.step s c).2) := by
            rw [zs_app, zs_len, List.append_assoc]; rfl
          rw [hz]
          have X15 := X14.off (o := .lst (zs (done ++ ((Vbchaj.step s c).2.length : Int) :: (Vbchaj.step s c).2))) f14 hfc' haw14
          refine s_asg (ev_var rfl) fun H16 e16 => ?_
          refine ⟨_, ?_, at' + 1 + used, _, _, _, _, _, f', cs', done ++ ((Vbchaj.step s c).2.length : Int) :: (Vbchaj.step s c).2, (Vbchaj.step s c).1, cl', L', rfl, by clear hcase; omega, rfl, ?_, X15.ext e16, e16 _ _ upd_same, hfc', ?_, ?_, fun c' hc' => has c' (List.mem_cons_of_mem _ hc'), ?_⟩
          · clear hcase; omega
          · exact ((((ca11.ext e12).upd).ext e14).upd).ext e16
          · exact fun z => haw14 (aw_off X14 f14 (aw_back e16 X15.hs.ok.at_ z))
          · rw [← List.drop_drop]; exact hcs'
          · rw [heq, List.append_assoc]
      · have hge : ¬ at' < l.length := by have := of_decide_eq_false hb; omega
        have hat' : at' = l.length := by omega
        have hnil : cs = [] := by
          rw [hat', List.drop_length] at hcs
          cases f <;> exact (Option.some.inj hcs).symm
        subst hnil
        have : PyVbchaj.answers l = done := heq.trans (List.append_nil done)
        refine s_ret (ev_var rfl) fun H5 e5 => k H5 fl ?_
        rw [this]
        exact (e4.trans e5) _ _ hf
end
end Cw
namespace Cw
open PySem PySem.Spec PyProof.Rows L2 Evl
open PySem.RefX (RefTxt)
section
variable {K : PySem.W.Frag} {mg : Str → Option Value} {h : Heap}
theorem dfn_mk {x : Str} {st : Stmt} {ps : List Str} {f : Addr} {oc : Value} {od an : Option Addr} {osl : Array (Option Value)} {kV doc pm cdv ct : Value} (X : K.In h) (G : h.Ns mainGlobals mg)
    (hb : ∀ (kV doc pm : Value) (an : Option Addr) (cdv ct : Value) (us : List Value), us.length = ps.length → bindArgs (PySem.W.fnOf x x (defArgs st) (defBody st) (defScope st) .none kV doc pm an cdv ct) ⟨us, []⟩ = pure (ps.zip us))
    (a : PySem.W.nsIn K mainGlobals x = some (some (.ref f))) (l : K.lookup f = some ⟨oc, od, .func (PySem.W.fnOf x x (defArgs st) (defBody st) (defScope st) .none kV doc pm an cdv ct), osl⟩) (c : PySem.W.codeIn K cdv x = true) (k : PySem.W.keepIn K (.ref f) = true) : Dfn K mg x st ps :=
  have F := fun_mk (st := st) l c k
  ⟨f, _, F, PySem.W.mg_of X G a, F.binds hb⟩
theorem dfnM_mk {C : Addr} {m qual : Str} {st : Stmt} {ps : List Str} {f : Addr} {oc : Value} {od an : Option Addr} {osl : Array (Option Value)} {kV doc pm cdv ct : Value}
    (hb : ∀ (kV doc pm : Value) (an : Option Addr) (cdv ct : Value) (us : List Value), us.length = ps.length → bindArgs (PySem.W.fnOf m qual (defArgs st) (defBody st) (defScope st) .none kV doc pm an cdv ct) ⟨us, []⟩ = pure (ps.zip us))
    (a : PySem.W.findIn K (.ref C) m = some (some (.ref f))) (i : PySem.W.isFn K (.ref f) = true) (l : K.lookup f = some ⟨oc, od, .func (PySem.W.fnOf m qual (defArgs st) (defBody st) (defScope st) .none kV doc pm an cdv ct), osl⟩) (c : PySem.W.codeIn K cdv qual = true) (k : PySem.W.keepIn K (.ref f) = true) : DfnM K C m qual st ps :=
  have F := fun_mk (st := st) l c k
  ⟨f, _, F, ⟨a, i, k⟩, F.binds hb⟩
theorem dfnI_mk {C : Addr} {x qual : Str} {st : Stmt} {ps : List Str} {f : Addr} {oc : Value} {od an : Option Addr} {osl : Array (Option Value)} {kV doc pm cdv ct : Value} (X : K.In h) (G : h.Ns mainGlobals mg)
    (hb : ∀ (kV doc pm : Value) (an : Option Addr) (cdv ct : Value) (us : List Value), us.length = ps.length → bindArgs (PySem.W.fnOf "__init__" qual (defArgs st) (defBody st) (defScope st) .none kV doc pm an cdv ct) ⟨us, []⟩ = pure (ps.zip us))
    (g : PySem.W.nsIn K mainGlobals x = some (some (.ref C))) (a : PySem.W.findIn K (.ref C) "__init__" = some (some (.ref f))) (i : PySem.W.isFn K (.ref f) = true)
    (l : K.lookup f = some ⟨oc, od, .func (PySem.W.fnOf "__init__" qual (defArgs st) (defBody st) (defScope st) .none kV doc pm an cdv ct), osl⟩) (c : PySem.W.codeIn K cdv qual = true) (k : PySem.W.keepIn K (.ref f) = true) (mk : PySem.W.makesIn K C = true) (kc : PySem.W.keepIn K (.ref C) = true) : DfnI K mg x C qual st ps :=
  have F := fun_mk (st := st) l c k
  ⟨f, _, F, ⟨mk, a, i, kc⟩, PySem.W.mg_of X G g, F.binds hb⟩
theorem blt_mk (X : K.In h) (G : h.Ns mainGlobals mg) (z1 : PySem.W.nsIn K mainGlobals "len" = some none) (z2 : PySem.W.nsIn K mainGlobals "range" = some none) (z3 : PySem.W.nsIn K mainGlobals "sum" = some none) (z4 : PySem.W.nsIn K mainGlobals "all" = some none)
    (z5 : PySem.W.nsIn K mainGlobals "any" = some none) (z6 : PySem.W.nsIn K mainGlobals "int" = some none) (z7 : PySem.W.nsIn K mainGlobals "sorted" = some none) (z8 : PySem.W.nsIn K mainGlobals "zip" = some none)
    (z9 : PySem.W.nsIn K mainGlobals "set" = some none) (za : PySem.W.nsIn K mainGlobals "list" = some none) (zb : PySem.W.nsIn K mainGlobals "dict" = some none) : Blt mg :=
  ⟨PySem.W.mg_none_of X G z1, PySem.W.mg_none_of X G z2, PySem.W.mg_none_of X G z3, PySem.W.mg_none_of X G z4, PySem.W.mg_none_of X G z5, PySem.W.mg_none_of X G z6, PySem.W.mg_none_of X G z7, PySem.W.mg_none_of X G z8, PySem.W.mg_none_of X G z9, PySem.W.mg_none_of X G za, PySem.W.mg_none_of X G zb⟩
theorem cst_mk {t1 t2 t3 t4 t5 t6 : Tok} (X : K.In h) (G : h.Ns mainGlobals mg) (z1 : PySem.W.nsIn K mainGlobals "KEY_MOST" = some (some (.int 1000000000 t1))) (z2 : PySem.W.nsIn K mainGlobals "MEMBERS_MOST" = some (some (.int 8 t2)))
    (z3 : PySem.W.nsIn K mainGlobals "PLACES_MOST" = some (some (.int 32 t3))) (z4 : PySem.W.nsIn K mainGlobals "CLIENTS_MOST" = some (some (.int 16 t4))) (z5 : PySem.W.nsIn K mainGlobals "ROOM_MOST" = some (some (.int 16 t5))) (z6 : PySem.W.nsIn K mainGlobals "ORDER_MOST" = some (some (.int 1000000 t6))) : Cst mg :=
  ⟨⟨_, PySem.W.mg_of X G z1⟩, ⟨_, PySem.W.mg_of X G z2⟩, ⟨_, PySem.W.mg_of X G z3⟩, ⟨_, PySem.W.mg_of X G z4⟩, ⟨_, PySem.W.mg_of X G z5⟩, ⟨_, PySem.W.mg_of X G z6⟩⟩
theorem tup_mk {aN aW : Addr} {oN oW : Option Addr} {sN sW : Array (Option Value)} {nN nW : Nat} {t0 t1 t2 t3 t4 t5 t6 t7 t8 t9 t10 t11 t12 t13 t14 t15 t16 t17 t18 t19 t20 t21 : Tok} {r0 r1 r2 r3 r4 : Tok} (X : K.In h) (G : h.Ns mainGlobals mg)
    (g1 : PySem.W.nsIn K mainGlobals "NUMBERS" = some (some (.ref aN))) (g2 : PySem.W.nsIn K mainGlobals "WITH_ROW" = some (some (.ref aW)))
    (l1 : K.lookup aN = some ⟨.type "tuple", oN, .seq #[.int 2 t0, .int 2 t1, .int 1 t2, .int 1 t3, .int 2 t4, .int 2 t5, .int 1 t6, .int 0 t7, .int 0 t8, .int 0 t9, .int 1 t10, .int 1 t11, .int 1 t12, .int 0 t13, .int 0 t14, .int 1 t15, .int 1 t16, .int 1 t17, .int 2 t18, .int 0 t19, .int 0 t20, .int 0 t21] nN, sN⟩)
    (l2 : K.lookup aW = some ⟨.type "tuple", oW, .seq #[.int 1 r0, .int 6 r1, .int 12 r2, .int 13 r3, .int 19 r4] nW, sW⟩) : Tup K mg aN aW :=
  ⟨PySem.W.mg_of X G g1, PySem.W.mg_of X G g2, fun H => Or.inr ⟨_, _, _, l1, rfl, rfl, (by show 22 ≤ 16777216; decide), (.cons ⟨_, rfl⟩ (.cons ⟨_, rfl⟩ (.cons ⟨_, rfl⟩ (.cons ⟨_, rfl⟩ (.cons ⟨_, rfl⟩ (.cons ⟨_, rfl⟩ (.cons ⟨_, rfl⟩ (.cons ⟨_, rfl⟩ (.cons ⟨_, rfl⟩ (.cons ⟨_, rfl⟩ (.cons ⟨_, rfl⟩ (.cons ⟨_, rfl⟩ (.cons ⟨_, rfl⟩ (.cons ⟨_, rfl⟩ (.cons ⟨_, rfl⟩ (.cons ⟨_, rfl⟩ (.cons ⟨_, rfl⟩ (.cons ⟨_, rfl⟩ (.cons ⟨_, rfl⟩ (.cons ⟨_, rfl⟩ (.cons ⟨_, rfl⟩ (.cons ⟨_, rfl⟩ .nil))))))))))))))))))))))⟩, fun H => Or.inr ⟨_, _, _, l2, rfl, rfl, (by show 5 ≤ 16777216; decide), (.cons ⟨_, rfl⟩ (.cons ⟨_, rfl⟩ (.cons ⟨_, rfl⟩ (.cons ⟨_, rfl⟩ (.cons ⟨_, rfl⟩ .nil)))))⟩⟩
theorem cmp_mk {C N : Addr} {nm q : Str} {bs : List Value} {sn : List Str} {sub : List Value} {ab : Bool} {col : Option Bool} {dd : Option Addr} {m0 m1 m2 m3 m5 : Option Value} {hd : Bool} {ni : String} {oc : Value} {od : Option Addr} {es : Array DictEntry} {ep : Nat} {sl : Array (Option Value)}
    (l : K.lookup C = some (excClassObj nm q C N bs [.type "object"] hd sn sub ab col dd m0 m1 m2 m3 m5 ni)) (l2 : K.lookup N = some ⟨oc, od, .dict es ep, sl⟩) (ok : (es.toList.all fun e => match e.key with | .str _ _ => true | _ => false) = true) (e1 : PySem.W.nsIn K N "__eq__" = some none) (e2 : PySem.W.nsIn K N "__ne__" = some none) : CmpK K C :=
  ⟨nm, q, N, bs, sn, sub, ab, col, dd, m0, m1, m2, m3, m5, hd, ni, l, by unfold PySem.W.nsOkIn; rw [l2]; exact (Array.all_toList (as := es)).symm.trans ok, e1, e2⟩
theorem clsH_mk {CH : Addr} (pg : PySem.W.plainGet K CH Str.empty = true) (hd : PySem.W.hasDictIn K CH = true) (po : PySem.W.plainOver K CH = true) (sa : PySem.W.findIn K (.ref CH) "__setattr__" = some (some (.builtin "object.__setattr__")))
    (n1 : PySem.W.findIn K (.ref CH) "rooms" = some none) (n2 : PySem.W.findIn K (.ref CH) "clients" = some none) : ClsH K CH := ⟨⟨pg, hd, po, sa⟩, n1, n2⟩
theorem clsC_mk {C : Addr} (pg : PySem.W.plainGet K C Str.empty = true) (hd : PySem.W.hasDictIn K C = true) (po : PySem.W.plainOver K C = true) (sa : PySem.W.findIn K (.ref C) "__setattr__" = some (some (.builtin "object.__setattr__")))
    (n1 : PySem.W.findIn K (.ref C) "key" = some none) (n2 : PySem.W.findIn K (.ref C) "order" = some none) (n3 : PySem.W.findIn K (.ref C) "takers" = some none) : ClsC K C := ⟨⟨pg, hd, po, sa⟩, n1, n2, n3⟩
theorem exm_self {S : Addr} (h1 : PySem.W.subIn K (.ref S) (.type "BaseException") = some true) (h2 : PySem.W.isClsIn K S = true) (h3 : PySem.W.typeIn K (.ref S) = some (.type "type")) (h4 : PySem.W.subIn K (.ref S) (.ref S) = some true) :
    PySem.W.exmOne K (.ref S) (.ref S) = some true := by
  have e1 : (PySem.W.subIn K (.ref S) (.type "BaseException") == some true) = true := by rw [h1] <;> rfl
  have e2 : ((PySem.W.clsIn K S).isSome && PySem.W.typeIn K (.ref S) == some (.type "type")) = true := by
    have h2' : (PySem.W.clsIn K S).isSome = true := h2
    rw [h2', h3] <;> rfl
  show (if (PySem.W.subIn K (.ref S) (.type "BaseException") == some true) = true then (if ((PySem.W.clsIn K S).isSome && PySem.W.typeIn K (.ref S) == some (.type "type")) = true then PySem.W.subIn K (.ref S) (.ref S) else none) else none) = some true
  rw [if_pos e1, if_pos e2]
  exact h4
theorem ref_mk {R fI N : Addr} {nm q : Str} {bs : List Value} {sn : List Str} {sub : List Value} {ab : Bool} {col : Option Bool} {dd : Option Addr} {m0 m1 m2 m3 m5 : Option Value} {od1 an1 : Option Addr} {sl1 : Array (Option Value)} {oc1 dc1 pm1 cd1 ct1 : Value} (X : K.In h) (G : h.Ns mainGlobals mg)
    (aC : PySem.W.nsIn K mainGlobals "Refused" = some (some (.ref R)))
    (xL : K.lookup R = some (excClassObj nm q R N bs [.type "ValueError", .type "Exception", .type "BaseException", .type "object"] true sn sub ab col dd m0 m1 m2 m3 m5 "ValueError.__new__"))
    (sa : PySem.W.findIn K (.ref R) "__setattr__" = some (some (.builtin "object.__setattr__"))) (ga : PySem.W.findIn K (.ref R) "__getattribute__" = some (some (.builtin "BaseException.__getattribute__"))) (gg : PySem.W.findIn K (.ref R) "__getattr__" = some none) (nb : PySem.W.findIn K (.ref R) "number" = some none)
    (a1 : PySem.W.findIn K (.ref R) "__init__" = some (some (.ref fI))) (t1 : PySem.W.typeIn K (.ref fI) = some (.type "function"))
    (l1 : K.lookup fI = some ⟨oc1, od1, .func (PySem.W.fnOf "__init__" "Refused.__init__" (PySem.RefX.iA ⟨25, 17, 25, 21⟩ ⟨25, 23, 25, 29⟩) (PySem.RefX.iB ⟨26, 8, 26, 12⟩ ⟨26, 8, 26, 19⟩ ⟨26, 22, 26, 28⟩ ⟨26, 8, 26, 28⟩) PySem.RefX.iS .none .none dc1 pm1 an1 cd1 ct1), sl1⟩) (c1 : PySem.W.codeIn K cd1 "Refused.__init__" = true)
    (kC : PySem.W.keepIn K (.ref R) = true) (eC : PySem.W.subIn K (.ref R) (.type "BaseException") = some true) (tC : PySem.W.typeIn K (.ref R) = some (.type "type")) (hC : PySem.W.hasDictIn K R = true) (iC : PySem.W.isClsIn K R = true) (sC : PySem.W.subIn K (.ref R) (.ref R) = some true) : RefTxt K mg R fI :=
  { gC := PySem.W.mg_of X G aC, cls := ⟨nm, q, N, bs, _, sn, sub, ab, col, dd, m0, m1, m2, m3, m5, xL, by decide +kernel⟩, sa := sa, ga := ga, gg := gg, noN := nb, iC := a1, tC := t1, kC := kC, exC := eC, tyC := tC, hdC := hC, te := exm_self eC iC tC sC,
    fn := ⟨_, _, _, _, _, _, _, _, _, _, _, _, _, _, l1, c1⟩ }
end
theorem all_mk {P : Program} {w : World} {K : PySem.W.Frag} {h : Heap} {mg : Str → Option Value} {fa CH C R fI a_NUMBERS a_WITH_ROW f3 : Addr} {od3 an3 : Option Addr} {sl3 : Array (Option Value)} {oc3 kV3 dc3 pm3 cd3 ct3 : Value} (X : K.In h) (G : h.Ns mainGlobals mg) (hfa : mg "answers" = some (.ref fa))
    (B : Blt mg) (TK : Cst mg) (TT : Tup K mg a_NUMBERS a_WITH_ROW) (TH : ClsH K CH) (TC : ClsC K C) (TQ : CmpK K C) (TR : RefTxt K mg R fI)
    (D_Client : DfnI K mg "Client" C "Client.__init__" s_Client_init P_Client_init)
    (D_House : DfnI K mg "House" CH "House.__init__" s_House_init P_House_init)
    (D_client_of : DfnM K CH "client_of" "House.client_of" s_House_client_of P_House_client_of)
    (D_place_in_order : Dfn K mg "place_in_order" s_place_in_order P_place_in_order)
    (D_in_order : Dfn K mg "in_order" s_in_order P_in_order)
    (D_look_range : Dfn K mg "look_range" s_look_range P_look_range)
    (D_look_key : Dfn K mg "look_key" s_look_key P_look_key)
    (D_look_list : Dfn K mg "look_list" s_look_list P_look_list)
    (D_look_members : Dfn K mg "look_members" s_look_members P_look_members)
    (D_known_client : Dfn K mg "known_client" s_known_client P_known_client)
    (D_members_of : Dfn K mg "members_of" s_members_of P_members_of)
    (D_bit_of : Dfn K mg "bit_of" s_bit_of P_bit_of)
    (D_set_of : Dfn K mg "set_of" s_set_of P_set_of)
    (D_keys_of : Dfn K mg "keys_of" s_keys_of P_keys_of)
    (D_is_within : Dfn K mg "is_within" s_is_within P_is_within)
    (D_room_slacks : Dfn K mg "room_slacks" s_room_slacks P_room_slacks)
    (D_goes_in : Dfn K mg "goes_in" s_goes_in P_goes_in)
    (D_kept_too : Dfn K mg "kept_too" s_kept_too P_kept_too)
    (D_moved_among : Dfn K mg "moved_among" s_moved_among P_moved_among)
    (D_moved_clients : Dfn K mg "moved_clients" s_moved_clients P_moved_clients)
    (D_all_slacks : Dfn K mg "all_slacks" s_all_slacks P_all_slacks)
    (D_is_free : Dfn K mg "is_free" s_is_free P_is_free)
    (D_without_place : Dfn K mg "without_place" s_without_place P_without_place)
    (D_placing : Dfn K mg "placing" s_placing P_placing)
    (D_may_go : Dfn K mg "may_go" s_may_go P_may_go)
    (D_clients_before : Dfn K mg "clients_before" s_clients_before P_clients_before)
    (D_moved_before : Dfn K mg "moved_before" s_moved_before P_moved_before)
    (D_is_proof : Dfn K mg "is_proof" s_is_proof P_is_proof)
    (D_proves : Dfn K mg "proves" s_proves P_proves)
    (D_least_of : Dfn K mg "least_of" s_least_of P_least_of)
    (D_least_proof : Dfn K mg "least_proof" s_least_proof P_least_proof)
    (D_bounds : Dfn K mg "bounds" s_bounds P_bounds)
    (D_least_cover : Dfn K mg "least_cover" s_least_cover P_least_cover)
    (D_tell_moved : Dfn K mg "tell_moved" s_tell_moved P_tell_moved)
    (D_counted : Dfn K mg "counted" s_counted P_counted)
    (D_left_clients : Dfn K mg "left_clients" s_left_clients P_left_clients)
    (D_where : Dfn K mg "where" s_where P_where)
    (D_is_moved : Dfn K mg "is_moved" s_is_moved P_is_moved)
    (D_tell_set : Dfn K mg "tell_set" s_tell_set P_tell_set)
    (D_why : Dfn K mg "why" s_why P_why)
    (D_check : Dfn K mg "check" s_check P_check)
    (D_bound : Dfn K mg "bound" s_bound P_bound)
    (D_cover : Dfn K mg "cover" s_cover P_cover)
    (D_new_ones : Dfn K mg "new_ones" s_new_ones P_new_ones)
    (D_without : Dfn K mg "without" s_without P_without)
    (D_roomier : Dfn K mg "roomier" s_roomier P_roomier)
    (D_first : Dfn K mg "first" s_first P_first)
    (D_may : Dfn K mg "may" s_may P_may)
    (D_isplan : Dfn K mg "isplan" s_isplan P_isplan)
    (D_tell_members : Dfn K mg "tell_members" s_tell_members P_tell_members)
    (D_tell_clients : Dfn K mg "tell_clients" s_tell_clients P_tell_clients)
    (D_put_member : Dfn K mg "put_member" s_put_member P_put_member)
    (D_put_client : Dfn K mg "put_client" s_put_client P_put_client)
    (D_gone : Dfn K mg "gone" s_gone P_gone)
    (D_drop : Dfn K mg "drop" s_drop P_drop)
    (D_change_room : Dfn K mg "change_room" s_change_room P_change_room)
    (D_change_order : Dfn K mg "change_order" s_change_order P_change_order)
    (D_change_takers : Dfn K mg "change_takers" s_change_takers P_change_takers)
    (D_move : Dfn K mg "move" s_move P_move)
    (D_of_change : Dfn K mg "of_change" s_of_change P_of_change)
    (D_of_list : Dfn K mg "of_list" s_of_list P_of_list)
    (D_of_key : Dfn K mg "of_key" s_of_key P_of_key)
    (D_of_all : Dfn K mg "of_all" s_of_all P_of_all)
    (D_answer : Dfn K mg "answer" s_answer P_answer)
    (D_answered : Dfn K mg "answered" s_answered P_answered)
    (a3 : PySem.W.nsIn K mainGlobals "answers" = some (some (.ref f3))) (l3 : K.lookup f3 = some ⟨oc3, od3, .func (PySem.W.fnOf "answers" "answers" (defArgs s_answers) (defBody s_answers) (defScope s_answers) .none kV3 dc3 pm3 an3 cd3 ct3), sl3⟩) (c3 : PySem.W.codeIn K cd3 "answers" = true) (k3 : PySem.W.keepIn K (.ref f3) = true) :
    ∃ fd : FuncData, (∀ (s : Shared) (us : List Value), us.length = P_answers.length → BindsTo s fd ⟨us, []⟩ (P_answers.zip us)) ∧ ∀ base : Heap, K.In base → base.Ns mainGlobals mg → FnOk P w K mg base CX0 12 fa fd P_answers (spAns K) := by
  have e := hfa.symm.trans (PySem.W.mg_of X G a3)
  cases e
  refine ⟨PySem.W.fnOf "answers" "answers" (defArgs s_answers) (defBody s_answers) (defScope s_answers) .none kV3 dc3 pm3 an3 cd3 ct3, fun s us hu => match us, hu with | [_], _ => .of_eq rfl, fun base _ _ => ?_⟩
  have F3 := fun_mk (st := s_answers) l3 c3 k3
  have c_Client := ok_Client (P := P) (w := w) (mg := mg) (base := base) TC D_Client
  have c_House := ok_House (P := P) (w := w) (mg := mg) (base := base) TH D_House
  have c_client_of := ok_client_of (P := P) (w := w) (mg := mg) (base := base) TH TC D_client_of
  have c_members_of := ok_members_of (P := P) (w := w) (mg := mg) (base := base) D_members_of B
  have c_bit_of := ok_bit_of (P := P) (w := w) (mg := mg) (base := base) D_bit_of
  have c_is_within := ok_is_within (P := P) (w := w) (mg := mg) (base := base) D_is_within
  have c_least_of := ok_least_of (P := P) (w := w) (mg := mg) (base := base) D_least_of
  have c_counted := ok_counted (P := P) (w := w) (mg := mg) (base := base) TC B D_counted
  have c_set_of := ok_set_of (P := P) (w := w) (mg := mg) (base := base) D_set_of B c_bit_of
  have c_keys_of := ok_keys_of (P := P) (w := w) (mg := mg) (base := base) D_keys_of B c_bit_of
  have c_room_slacks := ok_room_slacks (P := P) (w := w) (mg := mg) (base := base) D_room_slacks c_members_of
  have c_goes_in := ok_goes_in (P := P) (w := w) (mg := mg) (base := base) D_goes_in B c_is_within
  have c_kept_too := ok_kept_too (P := P) (w := w) (mg := mg) (base := base) D_kept_too B c_is_within
  have c_is_free := ok_is_free (P := P) (w := w) (mg := mg) (base := base) D_is_free B c_is_within
  have c_without_place := ok_without_place (P := P) (w := w) (mg := mg) (base := base) D_without_place B c_is_within
  have c_is_proof := ok_is_proof (P := P) (w := w) (mg := mg) (base := base) B D_is_proof c_is_within
  have c_tell_members := ok_tell_members (P := P) (w := w) (mg := mg) (base := base) (C := C) TH B D_tell_members c_members_of
  have x_look_range := ok_look_range (P := P) (w := w) (mg := mg) (base := base) TR D_look_range
  have x_look_members := ok_look_members (P := P) (w := w) (mg := mg) (base := base) (C := C) TH TR D_look_members
  have x_known_client := ok_known_client (P := P) (w := w) (mg := mg) (base := base) TR D_known_client c_client_of
  have c_moved_among := ok_moved_among (P := P) (w := w) (mg := mg) (base := base) TC D_moved_among c_members_of c_room_slacks c_set_of c_goes_in c_kept_too
  have c_all_slacks := ok_all_slacks (P := P) (w := w) (mg := mg) (base := base) TC D_all_slacks c_members_of c_room_slacks c_set_of c_kept_too
  have c_bounds := ok_bounds (P := P) (w := w) (mg := mg) (base := base) TH TC B D_bounds c_members_of c_set_of c_room_slacks c_is_within
  have c_tell_set := ok_tell_set (P := P) (w := w) (mg := mg) (base := base) (C := C) TH B D_tell_set c_members_of c_keys_of
  have c_in_order := ok_in_order (P := P) (w := w) (mg := mg) (base := base) TC B D_in_order D_place_in_order
  have x_look_key := ok_look_key (P := P) (w := w) (mg := mg) (base := base) TK D_look_key x_look_range
  have c_placing := ok_placing (P := P) (w := w) (mg := mg) (base := base) TC D_placing c_members_of c_all_slacks c_set_of c_is_free c_bit_of c_without_place
  have c_may_go := ok_may_go (P := P) (w := w) (mg := mg) (base := base) TC D_may_go c_members_of c_all_slacks c_set_of c_is_free c_bit_of
  have x_look_list := ok_look_list (P := P) (w := w) (mg := mg) (base := base) TR TK B D_look_list x_look_key
  have c_moved_clients := ok_moved_clients (P := P) (w := w) (mg := mg) (base := base) TH D_moved_clients c_in_order c_moved_among
  have c_clients_before := ok_clients_before (P := P) (w := w) (mg := mg) (base := base) TH TC D_clients_before c_in_order
  have c_tell_clients := ok_tell_clients (P := P) (w := w) (mg := mg) (base := base) TH TC B D_tell_clients c_in_order
  have x_put_member := ok_put_member (P := P) (w := w) (mg := mg) (base := base) (C := C) TH TR TK B D_put_member x_look_key x_look_range
  have x_gone := ok_gone (P := P) (w := w) (mg := mg) (base := base) TH TC TR B D_gone x_look_key x_look_members
  have x_drop := ok_drop (P := P) (w := w) (mg := mg) (base := base) TH TQ D_drop x_look_key x_known_client
  have x_change_room := ok_change_room (P := P) (w := w) (mg := mg) (base := base) (C := C) TH TK D_change_room x_look_key x_look_range x_look_members
  have x_change_order := ok_change_order (P := P) (w := w) (mg := mg) (base := base) TC TK D_change_order x_look_key x_look_range x_known_client
  have c_moved_before := ok_moved_before (P := P) (w := w) (mg := mg) (base := base) TH TC D_moved_before c_clients_before c_members_of c_moved_clients c_set_of
  have c_least_cover := ok_least_cover (P := P) (w := w) (mg := mg) (base := base) B D_least_cover c_moved_clients c_bounds c_least_of
  have c_tell_moved := ok_tell_moved (P := P) (w := w) (mg := mg) (base := base) TH TC B D_tell_moved c_moved_clients c_placing
  have c_left_clients := ok_left_clients (P := P) (w := w) (mg := mg) (base := base) TH TC D_left_clients c_moved_clients c_in_order
  have x_where := ok_where (P := P) (w := w) (mg := mg) (base := base) TH TC TR B D_where x_look_key x_known_client c_moved_clients c_placing
  have c_is_moved := ok_is_moved (P := P) (w := w) (mg := mg) (base := base) TC D_is_moved c_moved_clients
  have x_bound := ok_bound (P := P) (w := w) (mg := mg) (base := base) TH D_bound x_look_list x_look_members c_bounds c_set_of c_members_of
  have c_new_ones := ok_new_ones (P := P) (w := w) (mg := mg) (base := base) TC D_new_ones c_moved_clients
  have x_first := ok_first (P := P) (w := w) (mg := mg) (base := base) TH TC D_first x_look_key x_known_client c_in_order c_counted c_moved_among c_moved_clients
  have x_isplan := ok_isplan (P := P) (w := w) (mg := mg) (base := base) TH TC TR TK B D_isplan c_moved_clients
  have x_put_client := ok_put_client (P := P) (w := w) (mg := mg) (base := base) TH TC TR TK B D_put_client x_look_key x_look_range x_look_list x_look_members c_client_of c_Client
  have x_change_takers := ok_change_takers (P := P) (w := w) (mg := mg) (base := base) TC B D_change_takers x_look_key x_look_list x_look_members x_known_client
  have c_move := ok_move (P := P) (w := w) (mg := mg) (base := base) (R := R) TH TC B D_move c_moved_clients c_placing
  have c_proves := ok_proves (P := P) (w := w) (mg := mg) (base := base) TH TC D_proves c_members_of c_set_of c_moved_before c_room_slacks c_is_proof
  have c_least_proof := ok_least_proof (P := P) (w := w) (mg := mg) (base := base) TH TC B D_least_proof c_members_of c_set_of c_moved_before c_room_slacks c_is_proof c_least_of
  have c_cover := ok_cover (P := P) (w := w) (mg := mg) (base := base) D_cover c_tell_set c_least_cover
  have x_without := ok_without (P := P) (w := w) (mg := mg) (base := base) TH TC D_without x_look_key x_known_client c_in_order c_counted c_new_ones c_moved_among
  have x_roomier := ok_roomier (P := P) (w := w) (mg := mg) (base := base) TH TC B D_roomier x_look_key x_look_members c_in_order c_counted c_new_ones c_moved_among
  have x_may := ok_may (P := P) (w := w) (mg := mg) (base := base) TH TC B D_may x_look_key x_known_client x_look_members c_is_moved c_moved_clients c_may_go
  have x_of_change := ok_of_change (P := P) (w := w) (mg := mg) (base := base) D_of_change x_put_member x_put_client x_gone x_drop x_change_room x_change_order x_change_takers c_move
  have x_why := ok_why (P := P) (w := w) (mg := mg) (base := base) TR D_why x_look_key x_known_client c_is_moved c_tell_set c_least_proof
  have x_check := ok_check (P := P) (w := w) (mg := mg) (base := base) TH B D_check x_look_key x_look_list x_look_members x_known_client c_proves c_set_of c_members_of
  have c_of_all := ok_of_all (P := P) (w := w) (mg := mg) (base := base) D_of_all c_tell_moved c_counted c_left_clients c_cover c_tell_members c_tell_clients
  have x_of_list := ok_of_list (P := P) (w := w) (mg := mg) (base := base) D_of_list x_check x_bound x_isplan
  have x_of_key := ok_of_key (P := P) (w := w) (mg := mg) (base := base) D_of_key x_where x_why x_without x_roomier x_first
  have x_answer := ok_answer (P := P) (w := w) (mg := mg) (base := base) B TT D_answer x_of_change x_of_list x_may x_of_key c_of_all
  have c_answered := ok_answered (P := P) (w := w) (mg := mg) (base := base) TR TR.te D_answered x_answer
  exact F3.ok sc_answers (fun vs H Q E h => by obtain ⟨a, b, rfl, _⟩ := h; rfl) fun cdv A outer s H vs Q E hr h => body_answers TT B c_House c_answered _ cdv A outer s H vs Q E hr h
end Cw
open PySem PySem.W PyProof.Rows
set_option maxRecDepth 100000 in
set_option maxHeartbeats 80000000 in
theorem PySem.Challenge.cw_clientmoves_s01_answers_holds : PySem.Challenge.rw_clientmoves_s01_answers.Holds := by
  w_on; k_headS; (case hw => exact ⟨[.list [.int 7]], by decide +kernel, by decide +kernel⟩)
  k_fillS
  refine L2.walk_specK (r := PySem.Challenge.rw_clientmoves_s01_answers) (k := 12) (CX := L2.CX0) (ps := Cw.P_answers) (sp := Cw.spAns) (by decide +kernel) rfl rfl ⟨rfl, by decide, by decide⟩ (fun w h Y => PySem.W.kIn_of Y) ?F ?S (fun _ _ _ _ z => z)
  case S =>
    intro K H xs a hO hwi hask hx
    cases hx with
    | cons h1 h2 =>
      cases h2
      cases h1 with
      | lst hs ha =>
        have e := L2.ints_dw a.1 _ ha
        subst e
        exact ⟨_, a.1, rfl, hs, hask, fun H' p hp => .lst (L2.SqL.of hp) (L2.dw_ints _)⟩
  case F =>
    intro w mg fa h Y KX G hmg
    refine' Cw.all_mk KX G hmg ?B ?TK ?TT ?TH ?TC ?TQ ?TR ?D_Client ?D_House ?D_client_of ?D_place_in_order ?D_in_order ?D_look_range ?D_look_key ?D_look_list ?D_look_members ?D_known_client ?D_members_of ?D_bit_of ?D_set_of ?D_keys_of ?D_is_within ?D_room_slacks ?D_goes_in ?D_kept_too ?D_moved_among ?D_moved_clients ?D_all_slacks ?D_is_free ?D_without_place ?D_placing ?D_may_go ?D_clients_before ?D_moved_before ?D_is_proof ?D_proves ?D_least_of ?D_least_proof ?D_bounds ?D_least_cover ?D_tell_moved ?D_counted ?D_left_clients ?D_where ?D_is_moved ?D_tell_set ?D_why ?D_check ?D_bound ?D_cover ?D_new_ones ?D_without ?D_roomier ?D_first ?D_may ?D_isplan ?D_tell_members ?D_tell_clients ?D_put_member ?D_put_client ?D_gone ?D_drop ?D_change_room ?D_change_order ?D_change_takers ?D_move ?D_of_change ?D_of_list ?D_of_key ?D_of_all ?D_answer ?D_answered ?a3 ?l3 ?c3 ?k3
    (case a3 => k_is); (case l3 => k_is); (case c3 => k_is); (case k3 => k_is)
    (case B => (refine' Cw.blt_mk KX G ?z1 ?z2 ?z3 ?z4 ?z5 ?z6 ?z7 ?z8 ?z9 ?za ?zb; (case z1 => k_is); (case z2 => k_is); (case z3 => k_is); (case z4 => k_is); (case z5 => k_is); (case z6 => k_is); (case z7 => k_is); (case z8 => k_is); (case z9 => k_is); (case za => k_is); (case zb => k_is)))
    (case TK => (refine' Cw.cst_mk KX G ?z1 ?z2 ?z3 ?z4 ?z5 ?z6; (case z1 => k_is); (case z2 => k_is); (case z3 => k_is); (case z4 => k_is); (case z5 => k_is); (case z6 => k_is)))
    (case TT => (refine' Cw.tup_mk KX G ?g1 ?g2 ?l1 ?l2; (case g1 => k_is); (case g2 => k_is); (case l1 => k_is); (case l2 => k_is)))
    (case D_Client => (refine' Cw.dfnI_mk KX G (fun _ _ _ _ _ _ us hl => match us, hl with | [_, _, _, _], _ => rfl) ?g ?a ?i ?l ?c ?k ?mk ?kc; (case g => k_is); (case a => k_is); (case i => k_is); (case l => k_is); (case c => k_is); (case k => k_is); (case mk => k_is); (case kc => k_is)))
    (case D_House => (refine' Cw.dfnI_mk KX G (fun _ _ _ _ _ _ us hl => match us, hl with | [_], _ => rfl) ?g ?a ?i ?l ?c ?k ?mk ?kc; (case g => k_is); (case a => k_is); (case i => k_is); (case l => k_is); (case c => k_is); (case k => k_is); (case mk => k_is); (case kc => k_is)))
    (case D_client_of => (refine' Cw.dfnM_mk (fun _ _ _ _ _ _ us hl => match us, hl with | [_, _], _ => rfl) ?a ?i ?l ?c ?k; (case a => k_is); (case i => k_is); (case l => k_is); (case c => k_is); (case k => k_is)))
    (case D_place_in_order => (refine' Cw.dfn_mk KX G (fun _ _ _ _ _ _ us hl => match us, hl with | [_], _ => rfl) ?a ?l ?c ?k; (case a => k_is); (case l => k_is); (case c => k_is); (case k => k_is)))
    (case D_in_order => (refine' Cw.dfn_mk KX G (fun _ _ _ _ _ _ us hl => match us, hl with | [_], _ => rfl) ?a ?l ?c ?k; (case a => k_is); (case l => k_is); (case c => k_is); (case k => k_is)))
    (case D_look_range => (refine' Cw.dfn_mk KX G (fun _ _ _ _ _ _ us hl => match us, hl with | [_, _, _], _ => rfl) ?a ?l ?c ?k; (case a => k_is); (case l => k_is); (case c => k_is); (case k => k_is)))
    (case D_look_key => (refine' Cw.dfn_mk KX G (fun _ _ _ _ _ _ us hl => match us, hl with | [_], _ => rfl) ?a ?l ?c ?k; (case a => k_is); (case l => k_is); (case c => k_is); (case k => k_is)))
    (case D_look_list => (refine' Cw.dfn_mk KX G (fun _ _ _ _ _ _ us hl => match us, hl with | [_], _ => rfl) ?a ?l ?c ?k; (case a => k_is); (case l => k_is); (case c => k_is); (case k => k_is)))
    (case D_look_members => (refine' Cw.dfn_mk KX G (fun _ _ _ _ _ _ us hl => match us, hl with | [_, _], _ => rfl) ?a ?l ?c ?k; (case a => k_is); (case l => k_is); (case c => k_is); (case k => k_is)))
    (case D_known_client => (refine' Cw.dfn_mk KX G (fun _ _ _ _ _ _ us hl => match us, hl with | [_, _], _ => rfl) ?a ?l ?c ?k; (case a => k_is); (case l => k_is); (case c => k_is); (case k => k_is)))
    (case D_members_of => (refine' Cw.dfn_mk KX G (fun _ _ _ _ _ _ us hl => match us, hl with | [_], _ => rfl) ?a ?l ?c ?k; (case a => k_is); (case l => k_is); (case c => k_is); (case k => k_is)))
    (case D_bit_of => (refine' Cw.dfn_mk KX G (fun _ _ _ _ _ _ us hl => match us, hl with | [_], _ => rfl) ?a ?l ?c ?k; (case a => k_is); (case l => k_is); (case c => k_is); (case k => k_is)))
    (case D_set_of => (refine' Cw.dfn_mk KX G (fun _ _ _ _ _ _ us hl => match us, hl with | [_, _], _ => rfl) ?a ?l ?c ?k; (case a => k_is); (case l => k_is); (case c => k_is); (case k => k_is)))
    (case D_keys_of => (refine' Cw.dfn_mk KX G (fun _ _ _ _ _ _ us hl => match us, hl with | [_, _], _ => rfl) ?a ?l ?c ?k; (case a => k_is); (case l => k_is); (case c => k_is); (case k => k_is)))
    (case D_is_within => (refine' Cw.dfn_mk KX G (fun _ _ _ _ _ _ us hl => match us, hl with | [_, _], _ => rfl) ?a ?l ?c ?k; (case a => k_is); (case l => k_is); (case c => k_is); (case k => k_is)))
    (case D_room_slacks => (refine' Cw.dfn_mk KX G (fun _ _ _ _ _ _ us hl => match us, hl with | [_], _ => rfl) ?a ?l ?c ?k; (case a => k_is); (case l => k_is); (case c => k_is); (case k => k_is)))
    (case D_goes_in => (refine' Cw.dfn_mk KX G (fun _ _ _ _ _ _ us hl => match us, hl with | [_, _], _ => rfl) ?a ?l ?c ?k; (case a => k_is); (case l => k_is); (case c => k_is); (case k => k_is)))
    (case D_kept_too => (refine' Cw.dfn_mk KX G (fun _ _ _ _ _ _ us hl => match us, hl with | [_, _], _ => rfl) ?a ?l ?c ?k; (case a => k_is); (case l => k_is); (case c => k_is); (case k => k_is)))
    (case D_moved_among => (refine' Cw.dfn_mk KX G (fun _ _ _ _ _ _ us hl => match us, hl with | [_, _], _ => rfl) ?a ?l ?c ?k; (case a => k_is); (case l => k_is); (case c => k_is); (case k => k_is)))
    (case D_moved_clients => (refine' Cw.dfn_mk KX G (fun _ _ _ _ _ _ us hl => match us, hl with | [_], _ => rfl) ?a ?l ?c ?k; (case a => k_is); (case l => k_is); (case c => k_is); (case k => k_is)))
    (case D_all_slacks => (refine' Cw.dfn_mk KX G (fun _ _ _ _ _ _ us hl => match us, hl with | [_, _], _ => rfl) ?a ?l ?c ?k; (case a => k_is); (case l => k_is); (case c => k_is); (case k => k_is)))
    (case D_is_free => (refine' Cw.dfn_mk KX G (fun _ _ _ _ _ _ us hl => match us, hl with | [_, _, _], _ => rfl) ?a ?l ?c ?k; (case a => k_is); (case l => k_is); (case c => k_is); (case k => k_is)))
    (case D_without_place => (refine' Cw.dfn_mk KX G (fun _ _ _ _ _ _ us hl => match us, hl with | [_, _, _], _ => rfl) ?a ?l ?c ?k; (case a => k_is); (case l => k_is); (case c => k_is); (case k => k_is)))
    (case D_placing => (refine' Cw.dfn_mk KX G (fun _ _ _ _ _ _ us hl => match us, hl with | [_, _], _ => rfl) ?a ?l ?c ?k; (case a => k_is); (case l => k_is); (case c => k_is); (case k => k_is)))
    (case D_may_go => (refine' Cw.dfn_mk KX G (fun _ _ _ _ _ _ us hl => match us, hl with | [_, _, _, _], _ => rfl) ?a ?l ?c ?k; (case a => k_is); (case l => k_is); (case c => k_is); (case k => k_is)))
    (case D_clients_before => (refine' Cw.dfn_mk KX G (fun _ _ _ _ _ _ us hl => match us, hl with | [_, _], _ => rfl) ?a ?l ?c ?k; (case a => k_is); (case l => k_is); (case c => k_is); (case k => k_is)))
    (case D_moved_before => (refine' Cw.dfn_mk KX G (fun _ _ _ _ _ _ us hl => match us, hl with | [_, _], _ => rfl) ?a ?l ?c ?k; (case a => k_is); (case l => k_is); (case c => k_is); (case k => k_is)))
    (case D_is_proof => (refine' Cw.dfn_mk KX G (fun _ _ _ _ _ _ us hl => match us, hl with | [_, _, _, _], _ => rfl) ?a ?l ?c ?k; (case a => k_is); (case l => k_is); (case c => k_is); (case k => k_is)))
    (case D_proves => (refine' Cw.dfn_mk KX G (fun _ _ _ _ _ _ us hl => match us, hl with | [_, _, _], _ => rfl) ?a ?l ?c ?k; (case a => k_is); (case l => k_is); (case c => k_is); (case k => k_is)))
    (case D_least_of => (refine' Cw.dfn_mk KX G (fun _ _ _ _ _ _ us hl => match us, hl with | [_], _ => rfl) ?a ?l ?c ?k; (case a => k_is); (case l => k_is); (case c => k_is); (case k => k_is)))
    (case D_least_proof => (refine' Cw.dfn_mk KX G (fun _ _ _ _ _ _ us hl => match us, hl with | [_, _], _ => rfl) ?a ?l ?c ?k; (case a => k_is); (case l => k_is); (case c => k_is); (case k => k_is)))
    (case D_bounds => (refine' Cw.dfn_mk KX G (fun _ _ _ _ _ _ us hl => match us, hl with | [_], _ => rfl) ?a ?l ?c ?k; (case a => k_is); (case l => k_is); (case c => k_is); (case k => k_is)))
    (case D_least_cover => (refine' Cw.dfn_mk KX G (fun _ _ _ _ _ _ us hl => match us, hl with | [_], _ => rfl) ?a ?l ?c ?k; (case a => k_is); (case l => k_is); (case c => k_is); (case k => k_is)))
    (case D_tell_moved => (refine' Cw.dfn_mk KX G (fun _ _ _ _ _ _ us hl => match us, hl with | [_], _ => rfl) ?a ?l ?c ?k; (case a => k_is); (case l => k_is); (case c => k_is); (case k => k_is)))
    (case D_counted => (refine' Cw.dfn_mk KX G (fun _ _ _ _ _ _ us hl => match us, hl with | [_], _ => rfl) ?a ?l ?c ?k; (case a => k_is); (case l => k_is); (case c => k_is); (case k => k_is)))
    (case D_left_clients => (refine' Cw.dfn_mk KX G (fun _ _ _ _ _ _ us hl => match us, hl with | [_], _ => rfl) ?a ?l ?c ?k; (case a => k_is); (case l => k_is); (case c => k_is); (case k => k_is)))
    (case D_where => (refine' Cw.dfn_mk KX G (fun _ _ _ _ _ _ us hl => match us, hl with | [_, _], _ => rfl) ?a ?l ?c ?k; (case a => k_is); (case l => k_is); (case c => k_is); (case k => k_is)))
    (case D_is_moved => (refine' Cw.dfn_mk KX G (fun _ _ _ _ _ _ us hl => match us, hl with | [_, _], _ => rfl) ?a ?l ?c ?k; (case a => k_is); (case l => k_is); (case c => k_is); (case k => k_is)))
    (case D_tell_set => (refine' Cw.dfn_mk KX G (fun _ _ _ _ _ _ us hl => match us, hl with | [_, _], _ => rfl) ?a ?l ?c ?k; (case a => k_is); (case l => k_is); (case c => k_is); (case k => k_is)))
    (case D_why => (refine' Cw.dfn_mk KX G (fun _ _ _ _ _ _ us hl => match us, hl with | [_, _], _ => rfl) ?a ?l ?c ?k; (case a => k_is); (case l => k_is); (case c => k_is); (case k => k_is)))
    (case D_check => (refine' Cw.dfn_mk KX G (fun _ _ _ _ _ _ us hl => match us, hl with | [_, _, _], _ => rfl) ?a ?l ?c ?k; (case a => k_is); (case l => k_is); (case c => k_is); (case k => k_is)))
    (case D_bound => (refine' Cw.dfn_mk KX G (fun _ _ _ _ _ _ us hl => match us, hl with | [_, _], _ => rfl) ?a ?l ?c ?k; (case a => k_is); (case l => k_is); (case c => k_is); (case k => k_is)))
    (case D_cover => (refine' Cw.dfn_mk KX G (fun _ _ _ _ _ _ us hl => match us, hl with | [_], _ => rfl) ?a ?l ?c ?k; (case a => k_is); (case l => k_is); (case c => k_is); (case k => k_is)))
    (case D_new_ones => (refine' Cw.dfn_mk KX G (fun _ _ _ _ _ _ us hl => match us, hl with | [_, _], _ => rfl) ?a ?l ?c ?k; (case a => k_is); (case l => k_is); (case c => k_is); (case k => k_is)))
    (case D_without => (refine' Cw.dfn_mk KX G (fun _ _ _ _ _ _ us hl => match us, hl with | [_, _], _ => rfl) ?a ?l ?c ?k; (case a => k_is); (case l => k_is); (case c => k_is); (case k => k_is)))
    (case D_roomier => (refine' Cw.dfn_mk KX G (fun _ _ _ _ _ _ us hl => match us, hl with | [_, _], _ => rfl) ?a ?l ?c ?k; (case a => k_is); (case l => k_is); (case c => k_is); (case k => k_is)))
    (case D_first => (refine' Cw.dfn_mk KX G (fun _ _ _ _ _ _ us hl => match us, hl with | [_, _], _ => rfl) ?a ?l ?c ?k; (case a => k_is); (case l => k_is); (case c => k_is); (case k => k_is)))
    (case D_may => (refine' Cw.dfn_mk KX G (fun _ _ _ _ _ _ us hl => match us, hl with | [_, _, _], _ => rfl) ?a ?l ?c ?k; (case a => k_is); (case l => k_is); (case c => k_is); (case k => k_is)))
    (case D_isplan => (refine' Cw.dfn_mk KX G (fun _ _ _ _ _ _ us hl => match us, hl with | [_, _], _ => rfl) ?a ?l ?c ?k; (case a => k_is); (case l => k_is); (case c => k_is); (case k => k_is)))
    (case D_tell_members => (refine' Cw.dfn_mk KX G (fun _ _ _ _ _ _ us hl => match us, hl with | [_], _ => rfl) ?a ?l ?c ?k; (case a => k_is); (case l => k_is); (case c => k_is); (case k => k_is)))
    (case D_tell_clients => (refine' Cw.dfn_mk KX G (fun _ _ _ _ _ _ us hl => match us, hl with | [_], _ => rfl) ?a ?l ?c ?k; (case a => k_is); (case l => k_is); (case c => k_is); (case k => k_is)))
    (case D_put_member => (refine' Cw.dfn_mk KX G (fun _ _ _ _ _ _ us hl => match us, hl with | [_, _, _], _ => rfl) ?a ?l ?c ?k; (case a => k_is); (case l => k_is); (case c => k_is); (case k => k_is)))
    (case D_put_client => (refine' Cw.dfn_mk KX G (fun _ _ _ _ _ _ us hl => match us, hl with | [_, _, _, _], _ => rfl) ?a ?l ?c ?k; (case a => k_is); (case l => k_is); (case c => k_is); (case k => k_is)))
    (case D_gone => (refine' Cw.dfn_mk KX G (fun _ _ _ _ _ _ us hl => match us, hl with | [_, _], _ => rfl) ?a ?l ?c ?k; (case a => k_is); (case l => k_is); (case c => k_is); (case k => k_is)))
    (case D_drop => (refine' Cw.dfn_mk KX G (fun _ _ _ _ _ _ us hl => match us, hl with | [_, _], _ => rfl) ?a ?l ?c ?k; (case a => k_is); (case l => k_is); (case c => k_is); (case k => k_is)))
    (case D_change_room => (refine' Cw.dfn_mk KX G (fun _ _ _ _ _ _ us hl => match us, hl with | [_, _, _], _ => rfl) ?a ?l ?c ?k; (case a => k_is); (case l => k_is); (case c => k_is); (case k => k_is)))
    (case D_change_order => (refine' Cw.dfn_mk KX G (fun _ _ _ _ _ _ us hl => match us, hl with | [_, _, _], _ => rfl) ?a ?l ?c ?k; (case a => k_is); (case l => k_is); (case c => k_is); (case k => k_is)))
    (case D_change_takers => (refine' Cw.dfn_mk KX G (fun _ _ _ _ _ _ us hl => match us, hl with | [_, _, _], _ => rfl) ?a ?l ?c ?k; (case a => k_is); (case l => k_is); (case c => k_is); (case k => k_is)))
    (case D_move => (refine' Cw.dfn_mk KX G (fun _ _ _ _ _ _ us hl => match us, hl with | [_], _ => rfl) ?a ?l ?c ?k; (case a => k_is); (case l => k_is); (case c => k_is); (case k => k_is)))
    (case D_of_change => (refine' Cw.dfn_mk KX G (fun _ _ _ _ _ _ us hl => match us, hl with | [_, _, _, _], _ => rfl) ?a ?l ?c ?k; (case a => k_is); (case l => k_is); (case c => k_is); (case k => k_is)))
    (case D_of_list => (refine' Cw.dfn_mk KX G (fun _ _ _ _ _ _ us hl => match us, hl with | [_, _, _, _], _ => rfl) ?a ?l ?c ?k; (case a => k_is); (case l => k_is); (case c => k_is); (case k => k_is)))
    (case D_of_key => (refine' Cw.dfn_mk KX G (fun _ _ _ _ _ _ us hl => match us, hl with | [_, _, _], _ => rfl) ?a ?l ?c ?k; (case a => k_is); (case l => k_is); (case c => k_is); (case k => k_is)))
    (case D_of_all => (refine' Cw.dfn_mk KX G (fun _ _ _ _ _ _ us hl => match us, hl with | [_, _], _ => rfl) ?a ?l ?c ?k; (case a => k_is); (case l => k_is); (case c => k_is); (case k => k_is)))
    (case D_answer => (refine' Cw.dfn_mk KX G (fun _ _ _ _ _ _ us hl => match us, hl with | [_, _, _, _], _ => rfl) ?a ?l ?c ?k; (case a => k_is); (case l => k_is); (case c => k_is); (case k => k_is)))
    (case D_answered => (refine' Cw.dfn_mk KX G (fun _ _ _ _ _ _ us hl => match us, hl with | [_, _, _, _], _ => rfl) ?a ?l ?c ?k; (case a => k_is); (case l => k_is); (case c => k_is); (case k => k_is)))
    (case TH => (refine' Cw.clsH_mk ?pg ?hd ?po ?sa ?n1 ?n2; (case pg => k_is); (case hd => k_is); (case po => k_is); (case sa => k_is); (case n1 => k_is); (case n2 => k_is)))
    (case TC => (refine' Cw.clsC_mk ?pg ?hd ?po ?sa ?n1 ?n2 ?n3; (case pg => k_is); (case hd => k_is); (case po => k_is); (case sa => k_is); (case n1 => k_is); (case n2 => k_is); (case n3 => k_is)))
    (case TQ => (refine' Cw.cmp_mk ?l ?l2 ?ok ?e1 ?e2; (case l => k_is); (case l2 => k_is); (case ok => first | rfl | decide +kernel); (case e1 => k_is); (case e2 => k_is)))
    (case TR => (refine' Cw.ref_mk KX G ?aC ?xL ?sa ?ga ?gg ?nb ?a1 ?t1 ?l1 ?c1 ?kC ?eC ?tC ?hC ?iC ?sC; (case aC => k_is); (case xL => k_is); (case sa => k_is); (case ga => k_is); (case gg => k_is); (case nb => k_is); (case a1 => k_is); (case t1 => k_is); (case l1 => k_is); (case c1 => k_is); (case kC => k_is); (case eC => k_is); (case tC => k_is); (case hC => k_is); (case iC => k_is); (case sC => first | rfl | k_is)))
