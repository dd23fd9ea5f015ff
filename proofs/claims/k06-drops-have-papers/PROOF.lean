import PyProof.Rows.All
import Wide.All
import OpenK.AllK
import Wide.FinOn
import HandS.ForMost
import HandS.ForExc
import HandS.IsInst
import HandS.ExcIs
import HandS.Style
import PySem.Challenge.RW_ebbkeep_k06_whole_drops_have_papers
set_option Elab.async false
set_option linter.all false
set_option maxRecDepth 100000
set_option maxHeartbeats 4000000
namespace Ebb
/-! ### the mirror: one moment of a queue -/
/-- a moment: came, due, run, dropped -/
structure Mo where
  came : Int
  due : Int
  run : Int
  dropped : Int
/-- jobs that came at a moment -/
abbrev Rw := Nat × Int
def minI (i j : Int) : Int := if j < i then j else i
theorem minI_le_l (i j : Int) : minI i j ≤ i := by unfold minI; split <;> omega
theorem minI_le_r (i j : Int) : minI i j ≤ j := by unfold minI; split <;> omega
theorem minI_or (i j : Int) : minI i j = i ∨ minI i j = j := by unfold minI; split <;> simp
def takeR : Int → List Rw → List Rw
  | _, [] => []
  | left, r :: rs => (r.1, r.2 - minI left r.2) :: takeR (left - minI left r.2) rs
def isDue (lag now : Nat) (r : Rw) : Bool := decide (r.1 + lag ≤ now)
def stays (pat now : Nat) (r : Rw) : Bool := decide (now < r.1 + pat) && decide (0 < r.2)
def cnt (rs : List Rw) : Int := (rs.map (·.2)).sum
def dueOf (lag now : Nat) (rows : List Rw) : Int := cnt (rows.filter (isDue lag now))
def runOf (lag now : Nat) (rows : List Rw) (places : Int) : Int := minI (dueOf lag now rows) places
def restOf (lag now : Nat) (rows : List Rw) (places : Int) : List Rw := takeR (runOf lag now rows places) rows
def nextRows (lag pat : Nat) (rows : List Rw) (now : Nat) (came places : Int) : List Rw :=
  (restOf lag now (rows ++ [(now, came)]) places).filter (stays pat now)
def momentOf (lag pat : Nat) (rows : List Rw) (now : Nat) (came places : Int) : Mo :=
  ⟨came, dueOf lag now (rows ++ [(now, came)]), runOf lag now (rows ++ [(now, came)]) places, dueOf pat now (restOf lag now (rows ++ [(now, came)]) places)⟩
/-- the rows and the moments of a queue behind some moments, whatever came and whatever places there were -/
inductive Plays (lag pat : Nat) : List Rw → List Mo → Prop where
  | nil : Plays lag pat [] []
  | snoc {rows : List Rw} {ms : List Mo} (h : Plays lag pat rows ms) {came places : Int} (hc : 0 ≤ came) (hp : 0 ≤ places) :
      Plays lag pat (nextRows lag pat rows ms.length came places) (ms ++ [momentOf lag pat rows ms.length came places])
def cut {α : Type} (xs : List α) (lo hi : Nat) : List α := (xs.drop (min lo xs.length)).take (min hi xs.length - min lo xs.length)
def fullB (m : Mo) : Bool := decide (m.run < m.due)
/-- a paper, as both readers of the program ask it -/
def paperB (lag pat : Nat) (ms : List Mo) (f l : Int) : Bool :=
  if f < 0 ∨ l < f ∨ (ms.length : Int) ≤ l + pat then false
  else if (cut ms (f.toNat + lag) (l.toNat + pat + 1)).all fullB then
    decide (((cut ms (f.toNat + lag) (l.toNat + pat + 1)).map Mo.run).sum < ((cut ms f.toNat (l.toNat + 1)).map Mo.came).sum)
  else false

/-! ### the mathematics -/
theorem cnt_cons (r : Rw) (rs : List Rw) : cnt (r :: rs) = r.2 + cnt rs := by unfold cnt; rw [List.map_cons, List.sum_cons]
theorem cnt_nil : cnt [] = 0 := rfl
def NN (rs : List Rw) : Prop := ∀ r ∈ rs, 0 ≤ r.2
theorem NN.cons {r : Rw} {rs : List Rw} (h : NN (r :: rs)) : 0 ≤ r.2 ∧ NN rs := ⟨h r List.mem_cons_self, fun x hx => h x (List.mem_cons_of_mem _ hx)⟩
theorem cnt_nn : ∀ {rs : List Rw}, NN rs → 0 ≤ cnt rs
  | [], _ => by rw [cnt_nil]; omega
  | r :: rs, h => by
    have := cnt_nn h.cons.2
    have := h.cons.1
    rw [cnt_cons]; omega
theorem cnt_filter_le {p : Rw → Bool} : ∀ {rs : List Rw}, NN rs → cnt (rs.filter p) ≤ cnt rs
  | [], _ => by rw [List.filter_nil]; omega
  | r :: rs, h => by
    have h1 := cnt_filter_le (p := p) h.cons.2
    have h2 := h.cons.1
    rw [List.filter_cons, cnt_cons]
    split
    · rw [cnt_cons]; omega
    · omega
theorem NN.filter {p : Rw → Bool} {rs : List Rw} (h : NN rs) : NN (rs.filter p) := fun r hr => h r (List.mem_filter.mp hr).1
/-- what is left of the rows -/
theorem mem_takeR : ∀ {left : Int} {rs : List Rw} {r : Rw}, 0 ≤ left → NN rs → r ∈ takeR left rs → ∃ c, (r.1, c) ∈ rs ∧ 0 ≤ r.2 ∧ r.2 ≤ c
  | left, [], r, _, _, h => by simp [takeR] at h
  | left, a :: rs, r, hl, hn, h => by
    have h1 := minI_le_l left a.2
    have h2 := minI_le_r left a.2
    have h3 := minI_or left a.2
    have h4 := hn.cons.1
    simp only [takeR, List.mem_cons] at h
    rcases h with rfl | h
    · exact ⟨a.2, List.mem_cons_self, by show 0 ≤ a.2 - minI left a.2; omega, by show a.2 - minI left a.2 ≤ a.2; omega⟩
    · obtain ⟨c, q, q2⟩ := mem_takeR (left := left - minI left a.2) (by omega) hn.cons.2 h
      exact ⟨c, List.mem_cons_of_mem _ q, q2⟩
theorem takeR_NN {left : Int} {rs : List Rw} (hl : 0 ≤ left) (hn : NN rs) : NN (takeR left rs) := fun r hr => by
  obtain ⟨c, _, h, _⟩ := mem_takeR hl hn hr
  exact h
theorem takeR_fst : ∀ (left : Int) (rs : List Rw), (takeR left rs).map (·.1) = rs.map (·.1)
  | _, [] => rfl
  | left, a :: rs => by
    show a.1 :: (takeR (left - minI left a.2) rs).map (·.1) = a.1 :: rs.map (·.1)
    rw [takeR_fst]
/-- ascending moments -/
def Asc (rs : List Rw) : Prop := (rs.map (·.1)).Pairwise (· < ·)
theorem Asc.takeR {left : Int} {rs : List Rw} (h : Asc rs) : Asc (takeR left rs) := by
  unfold Asc
  rw [takeR_fst]
  exact h
theorem Asc.filter {p : Rw → Bool} {rs : List Rw} (h : Asc rs) : Asc (rs.filter p) :=
  List.Pairwise.sublist (List.Sublist.map _ List.filter_sublist) h
theorem Asc.cons {r : Rw} {rs : List Rw} (h : Asc (r :: rs)) : (∀ q ∈ rs, r.1 < q.1) ∧ Asc rs := by
  unfold Asc at h
  rw [List.map_cons, List.pairwise_cons] at h
  exact ⟨fun q hq => h.1 q.1 (List.mem_map.mpr ⟨q, hq, rfl⟩), h.2⟩
theorem Asc.snoc {rs : List Rw} {n : Nat} {c : Int} (h : Asc rs) (hn : ∀ r ∈ rs, r.1 < n) : Asc (rs ++ [(n, c)]) := by
  unfold Asc
  rw [List.map_append, List.pairwise_append]
  refine ⟨h, List.pairwise_singleton _ _, fun a ha b hb => ?_⟩
  obtain ⟨r, hr, rfl⟩ := List.mem_map.mp ha
  have e : b = n := by simpa using hb
  rw [e]
  exact hn r hr
/-- where all that are due are taken, no due job is left -/
theorem takeR_due {lag now : Nat} : ∀ {left : Int} {rs : List Rw} {r : Rw}, Asc rs → NN rs → cnt (rs.filter (isDue lag now)) ≤ left → r ∈ takeR left rs → isDue lag now r = true → r.2 = 0
  | left, [], r, _, _, _, h, _ => by simp [takeR] at h
  | left, a :: rs, r, hA, hn, hc, h, hd => by
    simp only [takeR, List.mem_cons] at h
    have hnn := cnt_nn (hn.cons.2.filter (p := isDue lag now))
    by_cases hda : isDue lag now a = true
    · rw [List.filter_cons, if_pos hda, cnt_cons] at hc
      have em : minI left a.2 = a.2 := by unfold minI; split <;> omega
      rw [em] at h
      rcases h with rfl | h
      · show a.2 - a.2 = 0
        omega
      · exact takeR_due hA.cons.2 hn.cons.2 (by omega) h hd
    · exfalso
      have hx : ¬ a.1 + lag ≤ now := by simpa [isDue] using hda
      have hy : r.1 + lag ≤ now := by simpa [isDue] using hd
      rcases h with rfl | h
      · exact hx hy
      · have hm : r.1 ∈ rs.map (·.1) := by
          rw [← takeR_fst (left - minI left a.2) rs]
          exact List.mem_map.mpr ⟨r, h, rfl⟩
        obtain ⟨q, hq, e⟩ := List.mem_map.mp hm
        have := hA.cons.1 q hq
        omega
/-- what lies in front of each job that waits, and it, is at most U of its moment; all at most T -/
def Bd (U : Nat → Int) (T : Int) : Int → List Rw → Prop
  | acc, [] => acc ≤ T
  | acc, r :: rs => (0 < r.2 → acc + r.2 ≤ U r.1) ∧ Bd U T (acc + r.2) rs
theorem Bd.less {U : Nat → Int} {T : Int} : ∀ {rs : List Rw} {acc acc' : Int}, Bd U T acc rs → acc' ≤ acc → Bd U T acc' rs
  | [], acc, acc', h, l => Int.le_trans l h
  | r :: rs, acc, acc', h, l => ⟨fun z => by have := h.1 z; omega, h.2.less (by omega)⟩
theorem Bd.filter {U : Nat → Int} {T : Int} {p : Rw → Bool} : ∀ {rs : List Rw} {acc : Int}, NN rs → Bd U T acc rs → Bd U T acc (rs.filter p)
  | [], _, _, h => h
  | r :: rs, acc, hn, h => by
    rw [List.filter_cons]
    split
    · exact ⟨h.1, Bd.filter hn.cons.2 h.2⟩
    · exact Bd.filter hn.cons.2 (h.2.less (by have := hn.cons.1; omega))
theorem Bd.takeR {U : Nat → Int} {T : Int} : ∀ {rs : List Rw} {acc left : Int}, NN rs → Bd U T acc rs → 0 ≤ left → left ≤ cnt rs → Bd U T (acc + left) (takeR left rs)
  | [], acc, left, _, h, h0, hl => by
    rw [cnt_nil] at hl
    show acc + left ≤ T
    have h : acc ≤ T := h
    omega
  | r :: rs, acc, left, hn, h, h0, hl => by
    have h1 := minI_le_l left r.2
    have h2 := minI_le_r left r.2
    have h3 := minI_or left r.2
    have h4 := hn.cons.1
    have h5 := cnt_nn hn.cons.2
    rw [cnt_cons] at hl
    show (0 < r.2 - minI left r.2 → acc + left + (r.2 - minI left r.2) ≤ U r.1) ∧ Bd U T (acc + left + (r.2 - minI left r.2)) (Ebb.takeR (left - minI left r.2) rs)
    refine ⟨fun z => ?_, ?_⟩
    · have := h.1 (by omega)
      omega
    · have q := Bd.takeR (acc := acc + r.2) (left := left - minI left r.2) hn.cons.2 h.2 (by omega) (by omega)
      have e : acc + left + (r.2 - minI left r.2) = acc + r.2 + (left - minI left r.2) := by omega
      rw [e]
      exact q
theorem Bd.mem {U : Nat → Int} {T : Int} : ∀ {rs : List Rw} {acc : Int} {r : Rw}, NN rs → Bd U T acc rs → r ∈ rs → 0 < r.2 → acc + r.2 ≤ U r.1
  | a :: rs, acc, r, hn, h, hm, z => by
    rcases List.mem_cons.mp hm with rfl | hm
    · exact h.1 z
    · have := h.2.mem hn.cons.2 hm z
      have := hn.cons.1
      omega
theorem Bd.snoc {U U' : Nat → Int} {T T' : Int} {n : Nat} {c : Int} (hU : ∀ x, x < n → U' x = U x) (hT : T + c ≤ U' n) (hT' : T + c ≤ T') :
    ∀ {rs : List Rw} {acc : Int}, (∀ r ∈ rs, r.1 < n) → Bd U T acc rs → Bd U' T' acc (rs ++ [(n, c)])
  | [], acc, _, h => by
    have h : acc ≤ T := h
    exact ⟨fun _ => by show acc + c ≤ U' n; omega, by show acc + c ≤ T'; omega⟩
  | r :: rs, acc, hm, h => ⟨fun z => by
      rw [hU r.1 (hm r List.mem_cons_self)]
      exact h.1 z, Bd.snoc hU hT hT' (fun q hq => hm q (List.mem_cons_of_mem _ hq)) h.2⟩
/-- rows ascending, each at most what came: in front of each lies at most what came before -/
theorem Bd.of_asc {P : Nat → Int} {T F : Int} {n : Nat} (mono : ∀ a b, a ≤ b → b ≤ n → P a ≤ P b) (hT : P n - F ≤ T) : ∀ {rs : List Rw} {acc : Int} {lo : Nat}, Asc rs → (∀ r ∈ rs, lo ≤ r.1 ∧ r.1 < n ∧ r.2 ≤ P (r.1 + 1) - P r.1) → lo ≤ n → acc ≤ P lo - F →
    Bd (fun x => P (x + 1) - F) T acc rs
  | [], acc, lo, _, _, hlo, h => by
    have := mono lo n hlo (Nat.le_refl _)
    show acc ≤ T
    omega
  | r :: rs, acc, lo, hA, hr, hlo, h => by
    obtain ⟨h1, h2, h3⟩ := hr r List.mem_cons_self
    have h4 := mono lo r.1 h1 (by omega)
    refine ⟨fun _ => ?_, Bd.of_asc (lo := r.1 + 1) mono hT hA.cons.2 (fun q hq => ?_) (by omega) (by omega)⟩
    · show acc + r.2 ≤ P (r.1 + 1) - F
      omega
    · have z1 := hA.cons.1 q hq
      obtain ⟨z2, z3, z4⟩ := hr q (List.mem_cons_of_mem _ hq)
      exact ⟨z1, z3, z4⟩

/-! ### sums up to a moment -/
def upTo (g : Mo → Int) (ms : List Mo) (k : Nat) : Int := ((ms.take k).map g).sum
theorem sumI_append (a b : List Int) : (a ++ b).sum = a.sum + b.sum := by
  induction a with
  | nil => simp
  | cons x r ih => rw [List.cons_append, List.sum_cons, List.sum_cons, ih]; omega
theorem upTo_old {g : Mo → Int} {ms : List Mo} {m : Mo} {k : Nat} (h : k ≤ ms.length) : upTo g (ms ++ [m]) k = upTo g ms k := by
  unfold upTo
  rw [List.take_append_of_le_length h]
theorem upTo_new {g : Mo → Int} {ms : List Mo} {m : Mo} : upTo g (ms ++ [m]) (ms.length + 1) = upTo g ms ms.length + g m := by
  unfold upTo
  rw [List.take_of_length_le (by simp), List.take_length, List.map_append, sumI_append]
  show _ + (g m + 0) = _
  omega
theorem upTo_all {g : Mo → Int} {ms : List Mo} {k : Nat} (h : ms.length ≤ k) : upTo g ms k = upTo g ms ms.length := by
  unfold upTo
  rw [List.take_of_length_le h, List.take_length]
theorem sum_cut {g : Mo → Int} {ms : List Mo} {a b : Nat} (h1 : a ≤ b) (h2 : b ≤ ms.length) : ((cut ms a b).map g).sum = upTo g ms b - upTo g ms a := by
  unfold cut upTo
  rw [Nat.min_eq_left (Nat.le_trans h1 h2), Nat.min_eq_left h2]
  have e : ms.take b = ms.take a ++ (ms.drop a).take (b - a) := by
    have z := List.take_add (l := ms) (i := a) (j := b - a)
    rw [← z]
    congr 1
    omega
  rw [e, List.map_append, sumI_append]
  omega
theorem upTo_mono {g : Mo → Int} {ms : List Mo} (h : ∀ m ∈ ms, 0 ≤ g m) {a b : Nat} (hab : a ≤ b) : upTo g ms a ≤ upTo g ms b := by
  have nn : ∀ l : List Mo, (∀ m ∈ l, 0 ≤ g m) → 0 ≤ (l.map g).sum := by
    intro l
    induction l with
    | nil => intro _; simp
    | cons x r ih =>
      intro h
      have h1 := ih fun m hm => h m (List.mem_cons_of_mem _ hm)
      have h2 := h x List.mem_cons_self
      rw [List.map_cons, List.sum_cons]
      omega
  unfold upTo
  have e : ms.take b = ms.take a ++ (ms.drop a).take (b - a) := by
    have z := List.take_add (l := ms) (i := a) (j := b - a)
    rw [← z]
    congr 1
    omega
  rw [e, List.map_append, sumI_append]
  have := nn ((ms.drop a).take (b - a)) fun m hm => h m (List.mem_of_mem_drop (List.mem_of_mem_take hm))
  omega

/-! ### what holds behind every moment -/
/-- from the moment first + lag on all moments were full, and all that ran since came at first or later -/
structure Since (lag : Nat) (rows : List Rw) (ms : List Mo) (f : Nat) : Prop where
  full : ∀ (i : Nat) m, f + lag ≤ i → ms[i]? = some m → m.run < m.due
  fle : f + lag ≤ ms.length ∨ f = 0
  ge : ∀ r ∈ rows, f ≤ r.1
  bd : Bd (fun x => upTo Mo.came ms (x + 1) - upTo Mo.came ms f) (upTo Mo.came ms ms.length - upTo Mo.came ms f) (upTo Mo.run ms ms.length - upTo Mo.run ms (f + lag)) rows
structure Holds (lag pat : Nat) (rows : List Rw) (ms : List Mo) : Prop where
  asc : Asc rows
  row : ∀ r ∈ rows, r.1 < ms.length ∧ 0 < r.2 ∧ r.2 ≤ upTo Mo.came ms (r.1 + 1) - upTo Mo.came ms r.1 ∧ ms.length ≤ r.1 + pat
  nn : ∀ m ∈ ms, 0 ≤ m.came
  since : ∃ f, Since lag rows ms f
  papers : ∀ (u : Nat) m, ms[u]? = some m → m.dropped ≠ 0 → ∃ f : Nat, f + pat ≤ u ∧ paperB lag pat ms (f : Int) ((u : Int) - pat) = true
theorem ge_of {f lag n : Nat} (h : f + lag ≤ n ∨ f = 0) : f ≤ n := by omega
theorem cnt_ne : ∀ {rs : List Rw}, cnt rs ≠ 0 → ∃ r ∈ rs, r.2 ≠ 0
  | [], h => absurd cnt_nil h
  | r :: rs, h => by
    by_cases z : r.2 = 0
    · rw [cnt_cons, z] at h
      obtain ⟨q, hq, e⟩ := cnt_ne (rs := rs) (by omega)
      exact ⟨q, List.mem_cons_of_mem _ hq, e⟩
    · exact ⟨r, List.mem_cons_self, z⟩
theorem cut_old {ms : List Mo} {m : Mo} {a b : Nat} (h : b ≤ ms.length) (hab : a ≤ b) : cut (ms ++ [m]) a b = cut ms a b := by
  unfold cut
  have h1 : (ms ++ [m]).length = ms.length + 1 := by simp
  have e1 : min a (ms.length + 1) = a := Nat.min_eq_left (by omega)
  have e2 : min b (ms.length + 1) = b := Nat.min_eq_left (by omega)
  have e3 : min a ms.length = a := Nat.min_eq_left (by omega)
  have e4 : min b ms.length = b := Nat.min_eq_left h
  rw [h1, e1, e2, e3, e4, List.drop_append_of_le_length (by omega), List.take_append_of_le_length (by rw [List.length_drop]; omega)]
theorem paper_old {lag pat : Nat} {ms : List Mo} {m : Mo} {f : Nat} {l : Int} (hlp : lag ≤ pat) (h : paperB lag pat ms (f : Int) l = true) : paperB lag pat (ms ++ [m]) (f : Int) l = true := by
  unfold paperB at h ⊢
  have h1 : (ms ++ [m]).length = ms.length + 1 := by simp
  by_cases c : ((f : Int) < 0 ∨ l < f ∨ (ms.length : Int) ≤ l + pat)
  · rw [if_pos c] at h; cases h
  · rw [if_neg c] at h
    rw [if_neg (by rw [h1]; omega)]
    have e1 : cut (ms ++ [m]) ((f : Int).toNat + lag) (l.toNat + pat + 1) = cut ms ((f : Int).toNat + lag) (l.toNat + pat + 1) := cut_old (by omega) (by omega)
    have e2 : cut (ms ++ [m]) (f : Int).toNat (l.toNat + 1) = cut ms (f : Int).toNat (l.toNat + 1) := cut_old (by omega) (by omega)
    rw [e1, e2]
    exact h
theorem mem_cut {ms : List Mo} {a b : Nat} {m : Mo} (h : m ∈ cut ms a b) : ∃ i : Nat, min a ms.length ≤ i ∧ i < min b ms.length ∧ ms[i]? = some m := by
  unfold cut at h
  obtain ⟨j, hj, e⟩ := List.mem_iff_getElem.mp h
  rw [List.length_take, List.length_drop] at hj
  refine ⟨min a ms.length + j, by omega, by omega, ?_⟩
  rw [List.getElem_take, List.getElem_drop] at e
  rw [List.getElem?_eq_getElem (by omega), e]
theorem holds_of {lag pat : Nat} (hlp : lag ≤ pat) {rows : List Rw} {ms : List Mo} (h : Plays lag pat rows ms) : Holds lag pat rows ms := by
  induction h with
  | nil =>
    refine ⟨List.Pairwise.nil, fun r hr => (nomatch hr), fun m hm => (nomatch hm), ⟨0, ⟨fun i m _ e => (by simp at e), .inr rfl, fun r hr => (nomatch hr), ?_⟩⟩, fun u m e => (by simp at e)⟩
    show upTo Mo.run [] 0 - upTo Mo.run [] (0 + lag) ≤ upTo Mo.came [] 0 - upTo Mo.came [] 0
    have e : ∀ k, upTo Mo.run [] k = 0 := fun k => by unfold upTo; simp
    rw [e, e]
    omega
  | @snoc rows ms _ came places hc hp ih =>
    obtain ⟨hA, hR, hN, ⟨f, hS⟩, hP⟩ := ih
    -- the rows with those that come
    have hA1 : Asc (rows ++ [(ms.length, came)]) := hA.snoc fun r hr => (hR r hr).1
    have hN1 : NN (rows ++ [(ms.length, came)]) := fun r hr => by
      rcases List.mem_append.mp hr with h | h
      · have := (hR r h).2.1
        omega
      · have e : r = (ms.length, came) := by simpa using h
        rw [e]
        exact hc
    have hf := ge_of hS.fle
    unfold nextRows momentOf restOf
    generalize hrow : rows ++ [(ms.length, came)] = rows1 at *
    have hdn : 0 ≤ dueOf lag ms.length rows1 := cnt_nn hN1.filter
    have hr0 : 0 ≤ runOf lag ms.length rows1 places := by
      unfold runOf
      rcases minI_or (dueOf lag ms.length rows1) places with e | e <;> rw [e] <;> assumption
    have hrd : runOf lag ms.length rows1 places ≤ dueOf lag ms.length rows1 := minI_le_l _ _
    have hrs : runOf lag ms.length rows1 places ≤ cnt rows1 := Int.le_trans hrd (cnt_filter_le hN1)
    generalize hrun : runOf lag ms.length rows1 places = run at *
    generalize hdue : dueOf lag ms.length rows1 = due at *
    generalize hm : (⟨came, due, run, dueOf pat ms.length (takeR run rows1)⟩ : Mo) = m
    have hlen : (ms ++ [m]).length = ms.length + 1 := by simp
    have mc : m.came = came := by rw [← hm]
    have mr : m.run = run := by rw [← hm]
    have md : m.due = due := by rw [← hm]
    have mdr : m.dropped = dueOf pat ms.length (takeR run rows1) := by rw [← hm]
    have hN2 : ∀ q ∈ ms ++ [m], 0 ≤ q.came := fun q hq => by
      rcases List.mem_append.mp hq with h | h
      · exact hN q h
      · have e : q = m := by simpa using h
        rw [e, mc]
        exact hc
    have hmono : ∀ a b, a ≤ b → upTo Mo.came (ms ++ [m]) a ≤ upTo Mo.came (ms ++ [m]) b := fun a b hab => upTo_mono hN2 hab
    -- each row of rows1
    have hR1 : ∀ r ∈ rows1, r.1 < ms.length + 1 ∧ f ≤ r.1 ∧ r.2 ≤ upTo Mo.came (ms ++ [m]) (r.1 + 1) - upTo Mo.came (ms ++ [m]) r.1 ∧ ms.length ≤ r.1 + pat := fun r hr => by
      rw [← hrow] at hr
      rcases List.mem_append.mp hr with h | h
      · obtain ⟨h1, h2, h3, h4⟩ := hR r h
        rw [upTo_old (by omega), upTo_old (by omega)]
        exact ⟨by omega, hS.ge r h, h3, h4⟩
      · have e : r = (ms.length, came) := by simpa using h
        rw [e]
        show ms.length < ms.length + 1 ∧ f ≤ ms.length ∧ came ≤ upTo Mo.came (ms ++ [m]) (ms.length + 1) - upTo Mo.came (ms ++ [m]) ms.length ∧ ms.length ≤ ms.length + pat
        rw [upTo_new, upTo_old (Nat.le_refl _), mc]
        omega
    -- what lies in front, with those that come
    have hB1 : Bd (fun x => upTo Mo.came (ms ++ [m]) (x + 1) - upTo Mo.came (ms ++ [m]) f) (upTo Mo.came (ms ++ [m]) (ms.length + 1) - upTo Mo.came (ms ++ [m]) f) (upTo Mo.run ms ms.length - upTo Mo.run ms (f + lag)) rows1 := by
      rw [← hrow]
      refine Bd.snoc (fun x hx => ?_) ?_ ?_ (fun r hr => (hR r hr).1) hS.bd
      · show upTo Mo.came (ms ++ [m]) (x + 1) - upTo Mo.came (ms ++ [m]) f = upTo Mo.came ms (x + 1) - upTo Mo.came ms f
        rw [upTo_old (by omega), upTo_old hf]
      · show _ ≤ upTo Mo.came (ms ++ [m]) (ms.length + 1) - upTo Mo.came (ms ++ [m]) f
        rw [upTo_new, upTo_old hf, mc]
        omega
      · rw [upTo_new, upTo_old hf, mc]
        omega
    have hB2 := hB1.takeR hN1 hr0 hrs
    have hNt : NN (takeR run rows1) := takeR_NN hr0 hN1
    have hRt : ∀ r ∈ takeR run rows1, r.1 < ms.length + 1 ∧ f ≤ r.1 ∧ r.2 ≤ upTo Mo.came (ms ++ [m]) (r.1 + 1) - upTo Mo.came (ms ++ [m]) r.1 ∧ ms.length ≤ r.1 + pat := fun r hr => by
      obtain ⟨c, h1, h2, h3⟩ := mem_takeR hr0 hN1 hr
      obtain ⟨z1, z2, z3, z4⟩ := hR1 _ h1
      have z3 : c ≤ upTo Mo.came (ms ++ [m]) (r.1 + 1) - upTo Mo.came (ms ++ [m]) r.1 := z3
      exact ⟨z1, z2, by omega, z4⟩
    have base' : f + lag ≤ ms.length → upTo Mo.run (ms ++ [m]) (ms.length + 1) - upTo Mo.run (ms ++ [m]) (f + lag) = upTo Mo.run ms ms.length - upTo Mo.run ms (f + lag) + run := fun h => by
      rw [upTo_new, upTo_old h, mr]
      omega
    refine ⟨(hA1.takeR).filter, fun r hr => ?_, hN2, ?_, fun u q e hq => ?_⟩
    · -- the rows
      obtain ⟨h1, h2⟩ := List.mem_filter.mp hr
      unfold stays at h2
      rw [Bool.and_eq_true, decide_eq_true_eq, decide_eq_true_eq] at h2
      obtain ⟨z1, z2, z3, z4⟩ := hRt r h1
      rw [hlen]
      exact ⟨z1, h2.2, z3, by omega⟩
    · -- since when all moments were full
      by_cases hfull : run < due
      · -- this one is, too
        have hfl : f + lag ≤ ms.length := by
          have hne : cnt (rows1.filter (isDue lag ms.length)) ≠ 0 := fun z => by
            have z' : due = 0 := by rw [← hdue]; exact z
            omega
          obtain ⟨r, hr, _⟩ := cnt_ne hne
          obtain ⟨h1, h2⟩ := List.mem_filter.mp hr
          have h3 : r.1 + lag ≤ ms.length := by simpa [isDue] using h2
          have h4 := (hR1 r h1).2.1
          omega
        refine ⟨f, ⟨fun i q hi e => ?_, .inl (by rw [hlen]; omega), fun r hr => (hRt r (List.mem_filter.mp hr).1).2.1, ?_⟩⟩
        · by_cases hi2 : i < ms.length
          · rw [List.getElem?_append_left hi2] at e
            exact hS.full i q hi e
          · have hi3 : i < (ms ++ [m]).length := (List.getElem?_eq_some_iff.mp e).1
            have ei : i = ms.length := by omega
            subst ei
            have eq : m = q := by simpa using e
            rw [← eq, mr, md]
            exact hfull
        · rw [hlen, base' hfl]
          exact hB2.filter hNt
      · -- all due jobs ran
        have hrdue : due ≤ run := by omega
        refine ⟨ms.length + 1 - lag, ⟨fun i q hi e => ?_, by rw [hlen]; omega, fun r hr => ?_, ?_⟩⟩
        · have hi3 : i < (ms ++ [m]).length := (List.getElem?_eq_some_iff.mp e).1
          omega
        · obtain ⟨h1, h2⟩ := List.mem_filter.mp hr
          unfold stays at h2
          rw [Bool.and_eq_true, decide_eq_true_eq, decide_eq_true_eq] at h2
          have nd : ¬ isDue lag ms.length r = true := fun z => by
            have := takeR_due hA1 hN1 (by show cnt (rows1.filter (isDue lag ms.length)) ≤ run; rw [← hdue] at hrdue; exact hrdue) h1 z
            omega
          have nd : ¬ r.1 + lag ≤ ms.length := by simpa [isDue] using nd
          omega
        · rw [hlen]
          have e0 : upTo Mo.run (ms ++ [m]) (ms.length + 1 - lag + lag) = upTo Mo.run (ms ++ [m]) (ms.length + 1) := by
            rw [upTo_all (k := ms.length + 1 - lag + lag) (by rw [hlen]; omega), hlen]
          rw [e0]
          have e1 : upTo Mo.run (ms ++ [m]) (ms.length + 1) - upTo Mo.run (ms ++ [m]) (ms.length + 1) = 0 := by omega
          rw [e1]
          refine Bd.of_asc (P := upTo Mo.came (ms ++ [m])) (n := ms.length + 1) (lo := ms.length + 1 - lag) (fun a b h _ => hmono a b h) (by omega) (hA1.takeR).filter (fun r hr => ?_) (by omega) (by omega)
          obtain ⟨h1, h2⟩ := List.mem_filter.mp hr
          unfold stays at h2
          rw [Bool.and_eq_true, decide_eq_true_eq, decide_eq_true_eq] at h2
          obtain ⟨z1, z2, z3, z4⟩ := hRt r h1
          have nd : ¬ isDue lag ms.length r = true := fun z => by
            have := takeR_due hA1 hN1 (by show cnt (rows1.filter (isDue lag ms.length)) ≤ run; rw [← hdue] at hrdue; exact hrdue) h1 z
            omega
          have nd : ¬ r.1 + lag ≤ ms.length := by simpa [isDue] using nd
          exact ⟨by omega, z1, z3⟩
    · -- the papers
      by_cases hu : u < ms.length
      · rw [List.getElem?_append_left hu] at e
        obtain ⟨f', h1, h2⟩ := hP u q e hq
        exact ⟨f', h1, paper_old hlp h2⟩
      · have hu3 : u < (ms ++ [m]).length := (List.getElem?_eq_some_iff.mp e).1
        have eu : u = ms.length := by omega
        subst eu
        have eq : m = q := by simpa using e
        rw [← eq, mdr] at hq
        obtain ⟨r, hr, hr2⟩ := cnt_ne hq
        obtain ⟨h1, h2⟩ := List.mem_filter.mp hr
        have h2 : r.1 + pat ≤ ms.length := by simpa [isDue] using h2
        obtain ⟨z1, z2, z3, z4⟩ := hRt r h1
        have hpos : 0 < r.2 := by have := hNt r h1; omega
        have hdu : isDue lag ms.length r = true := by
          unfold isDue
          exact decide_eq_true (by omega)
        have hfull : run < due := by
          refine Int.not_le.mp fun z => ?_
          have := takeR_due hA1 hN1 (by show cnt (rows1.filter (isDue lag ms.length)) ≤ run; rw [← hdue] at z; exact z) h1 hdu
          omega
        have hfl : f + lag ≤ ms.length := by omega
        have hb := hB2.mem hNt h1 hpos
        have hb : upTo Mo.run ms ms.length - upTo Mo.run ms (f + lag) + run + r.2 ≤ upTo Mo.came (ms ++ [m]) (r.1 + 1) - upTo Mo.came (ms ++ [m]) f := hb
        rw [← base' hfl] at hb
        refine ⟨f, by omega, ?_⟩
        unfold paperB
        have er : ((ms.length : Int) - pat).toNat = r.1 := by omega
        rw [if_neg (by rw [hlen]; omega), er, Int.toNat_natCast]
        have e1 : r.1 + pat + 1 = ms.length + 1 := by omega
        rw [e1]
        rw [if_pos, sum_cut (by omega) (by rw [hlen]; omega), sum_cut (by omega) (by rw [hlen]; omega)]
        · exact decide_eq_true (by omega)
        · rw [List.all_eq_true]
          intro x hx
          obtain ⟨i, i1, i2, i3⟩ := mem_cut hx
          unfold fullB
          refine decide_eq_true ?_
          rw [hlen] at i1 i2
          by_cases hi2 : i < ms.length
          · rw [List.getElem?_append_left hi2] at i3
            exact hS.full i x (by omega) i3
          · have ei : i = ms.length := by omega
            subst ei
            have eq : m = x := by simpa using i3
            rw [← eq, mr, md]
            exact hfull
/-- point 9 of the document: where jobs are dropped there is a paper -/
theorem papers {lag pat : Nat} (hlp : lag ≤ pat) {rows : List Rw} {ms : List Mo} (h : Plays lag pat rows ms) {u : Nat} {m : Mo} (hu : ms[u]? = some m) (hd : m.dropped ≠ 0) :
    ∃ f : Nat, f + pat ≤ u ∧ paperB lag pat ms (f : Int) ((u : Int) - pat) = true := (holds_of hlp h).papers u m hu hd
end Ebb
namespace Ebb
open PySem PySem.Spec PyProof.Rows L2
/-! ### the text by places -/
def top (i : Nat) : Stmt := PySem.Challenge.pw_ebbkeep_k06_whole_drops_have_papers.main.body.getD i (.Pass ⟨0, 0, 0, 0⟩)
abbrev sFull : Stmt := top 4
abbrev sAcc : Stmt := top 5
abbrev sMake : Stmt := top 6
abbrev sIsInt : Stmt := top 8
abbrev sCell : Stmt := top 9
abbrev sDraw : Stmt := top 10
abbrev sSteps : Stmt := top 11
abbrev sPlay : Stmt := top 12
abbrev sPaper : Stmt := top 13
abbrev sTimes : Stmt := top 14
abbrev sMade : Stmt := top 15
abbrev sLaw : Stmt := top 16
/-! ### tests whose answer is known -/
theorem ifT {c A B : Prop} [Decidable c] (hc : c) (h : A) : if decide c = true then A else B := by
  rw [decide_eq_true hc]
  exact iteT h
theorem ifF {c A B : Prop} [Decidable c] (hc : ¬ c) (h : B) : if decide c = true then A else B := by
  rw [decide_eq_false hc]
  exact iteF h
theorem boolT {b : Bool} {A B : Prop} (hb : b = true) (h : A) : if b = true then A else B := by
  rw [if_pos hb]
  exact h
theorem boolF {b : Bool} {A B : Prop} (hb : b = false) (h : B) : if b = true then A else B := by
  rw [hb]
  exact iteF h
/-! ### heaps -/
theorem same_upd {H : Hp} {p : Addr} {o : HO} (h : H p = none) : Same H (upd H p o) := fun b x e => by
  rw [upd_ne (ne_of_none e h)]
  exact e
theorem same_put {H H' : Hp} {p : Addr} {o : HO} (s : Same H H') (h : H p = none) : Same H (upd H' p o) := fun b x e => by
  rw [upd_ne (ne_of_none e h)]
  exact s b x e
/-! ### moments and rows as tuples, lists of them -/
def mo (m : Mo) : List V := [.int m.came, .int m.due, .int m.run, .int m.dropped]
def rv (r : Rw) : List V := [.int (r.1 : Int), .int r.2]
section
variable {α : Type} {enc : α → List V} {H H' : Hp} {xs : List V} {ms : List α}
/-- xs are the tuples of ms -/
def Tups (enc : α → List V) (H : Hp) (xs : List V) (ms : List α) : Prop :=
  xs.length = ms.length ∧ ∀ (i : Nat) v, xs[i]? = some v → ∃ m p, ms[i]? = some m ∧ v = V.ref p ∧ H p = some (.tup (enc m))
theorem Tups.same (T : Tups enc H xs ms) (s : Same H H') : Tups enc H' xs ms := ⟨T.1, fun i v e => by
  obtain ⟨m, p, h1, h2, h3⟩ := T.2 i v e
  exact ⟨m, p, h1, h2, s _ _ h3⟩⟩
theorem Tups.nil : Tups enc H [] [] := ⟨rfl, fun i v e => by simp at e⟩
theorem Tups.snoc (T : Tups enc H xs ms) {p : Addr} {m : α} (h : H p = some (.tup (enc m))) : Tups enc H (xs ++ [V.ref p]) (ms ++ [m]) := by
  refine ⟨by rw [List.length_append, List.length_append, T.1]; rfl, fun i v e => ?_⟩
  by_cases hi : i < xs.length
  · rw [List.getElem?_append_left hi] at e
    obtain ⟨m', p', h1, h2, h3⟩ := T.2 i v e
    exact ⟨m', p', by rw [List.getElem?_append_left (by rw [← T.1]; exact hi)]; exact h1, h2, h3⟩
  · have hi2 : i < (xs ++ [V.ref p]).length := (List.getElem?_eq_some_iff.mp e).1
    rw [List.length_append] at hi2
    have ei : i = xs.length := by simp at hi2; omega
    subst ei
    rw [List.getElem?_append_right (Nat.le_refl _), Nat.sub_self] at e
    have e' : V.ref p = v := Option.some.inj e
    refine ⟨m, p, ?_, e'.symm, h⟩
    rw [T.1, List.getElem?_append_right (Nat.le_refl _), Nat.sub_self]
    rfl
theorem Tups.get (T : Tups enc H xs ms) {i : Nat} {m : α} (h : ms[i]? = some m) : ∃ p, xs[i]? = some (V.ref p) ∧ H p = some (.tup (enc m)) := by
  have hi : i < xs.length := by rw [T.1]; exact (List.getElem?_eq_some_iff.mp h).1
  obtain ⟨m', p, h1, h2, h3⟩ := T.2 i xs[i] (List.getElem?_eq_getElem hi)
  rw [h] at h1
  cases h1
  exact ⟨p, by rw [List.getElem?_eq_getElem hi, h2], h3⟩
theorem cutV_eq (xs : List V) (lo hi : Nat) : cutV xs (some (lo : Int)) (some (hi : Int)) = cut xs lo hi := by
  unfold cutV cut
  rw [HT.sIx_nat, HT.sIx_nat]
theorem Tups.cut (T : Tups enc H xs ms) (lo hi : Nat) : Tups enc H (Ebb.cut xs lo hi) (Ebb.cut ms lo hi) := by
  unfold Ebb.cut
  rw [T.1]
  refine ⟨by rw [List.length_take, List.length_drop, List.length_take, List.length_drop, T.1], fun i v e => ?_⟩
  rw [List.getElem?_take] at e
  split at e
  · rename_i hi2
    rw [List.getElem?_drop] at e
    obtain ⟨m, p, h1, h2, h3⟩ := T.2 _ v e
    refine ⟨m, p, ?_, h2, h3⟩
    rw [List.getElem?_take, if_pos hi2, List.getElem?_drop]
    exact h1
  · cases e
/-- at a a list of the tuples of ms -/
def LT (enc : α → List V) (H : Hp) (a : Addr) (ms : List α) : Prop := ∃ xs, H a = some (.lst xs) ∧ Tups enc H xs ms
theorem LT.same {a : Addr} (T : LT enc H a ms) (s : Same H H') : LT enc H' a ms := by
  obtain ⟨xs, h1, h2⟩ := T
  exact ⟨xs, s _ _ h1, h2.same s⟩
theorem cut_length {β : Type} (xs : List β) (lo hi : Nat) : (Ebb.cut xs lo hi).length ≤ xs.length := by
  unfold Ebb.cut
  rw [List.length_take, List.length_drop]
  omega
/-! ### a comprehension over a list of tuples -/
theorem filter_take {β : Type} (p : β → Bool) {l : List β} {i : Nat} {m : β} (h : l[i]? = some m) : (l.take (i + 1)).filter p = (l.take i).filter p ++ if p m = true then [m] else [] := by
  rw [List.take_add_one, h, List.filter_append]
  show _ ++ [m].filter p = _
  rw [List.filter_cons]
  split <;> rfl
/-- [f(x) for x in l if p(x)] : the values of the items that are kept -/
theorem lc_val {K : PySem.W.Frag} {a : Addr} {g : TG} {tt : TT} {te : TE} {vs : List Nat} {σ : L2.St} {H1 : Hp} {D : Addr} {Qd : Hp → Prop} (p : α → Bool) (f : α → V) (hx : H1 a = some (.lst xs)) (T : Tups enc H1 xs ms) (hD : H1 D = none) (hl : ms.length ≤ 1000)
    (hs : ∀ (i : Nat) m q H (R : L2.St → Hp → Prop), ms[i]? = some m → Same H1 H → H q = some (.tup (enc m)) →
      (∀ σ2, wipe σ2 vs = wipe σ vs → (∀ S : Bool → Hp → Prop, S (p m) H → tt σ2 H S) → (p m = true → ∀ S : V → Hp → Prop, S (f m) H → te σ2 H S) → R σ2 H) → g (.ref q) (wipe σ vs) H R)
    (hd : ∀ H, Same H1 H → H D = some (.lst ((ms.filter p).map f)) → Qd H) :
    ∃ W : Nat → Nat → Hp → Prop, (∃ m, W 0 m (upd H1 D (.lst []))) ∧ ∀ i m H, W i m H →
      ((Itl K a).stop i H ∧ Qd H) ∨ ((Itl K a).go i H ∧ ∃ Nx : Hp → Prop, (∀ H', Nx H' → ∃ m', m' < m ∧ W (i + 1) m' H') ∧ ∀ x H', (Itl K a).yld i H x H' → g x (wipe σ vs) H' fun σ2 H2 => wipe σ2 vs = wipe σ vs ∧ tt σ2 H2 fun b H3 =>
        if b = true then te σ2 H3 fun y H4 => ∃ acc, H4 D = some (.lst acc) ∧ acc.length < sizeLine ∧ Nx (upd H4 D (.lst (acc ++ [y]))) else Nx H3) := by
  refine lc_list (K := K) (a := a) (xs := xs) (fun i H => Same H1 H ∧ H D = some (.lst (((ms.take i).filter p).map f))) ⟨same_upd hD, upd_same⟩ (fun i H _ h => SqL.of (h.1 _ _ hx)) ?_ ?_
  · rintro i x H hi ⟨s, e⟩
    obtain ⟨m, q, h1, rfl, h3⟩ := T.2 i x hi
    refine hs i m q H _ h1 s (s _ _ h3) fun σ2 hw ht he => ⟨hw, ht _ ?_⟩
    have st := filter_take p h1
    cases c : p m with
    | false =>
      rw [c, if_neg Bool.false_ne_true, List.append_nil] at st
      exact iteF ⟨s, by rw [st]; exact e⟩
    | true =>
      rw [c, if_pos rfl] at st
      refine iteT (he c _ ⟨_, e, ?_, same_put s hD, ?_⟩)
      · refine small1000 ?_
        rw [List.length_map]
        have z1 := List.length_filter_le p (ms.take i)
        rw [List.length_take] at z1
        omega
      · rw [upd_same, st, List.map_append]
        rfl
  · rintro H ⟨s, e⟩
    rw [T.1, List.take_length] at e
    exact hd H s e
/-- [x for x in l if p(x)] -/
theorem lc_same {K : PySem.W.Frag} {a : Addr} {g : TG} {tt : TT} {te : TE} {vs : List Nat} {σ : L2.St} {H1 : Hp} {D : Addr} {Qd : Hp → Prop} (p : α → Bool) (hx : H1 a = some (.lst xs)) (T : Tups enc H1 xs ms) (hD : H1 D = none) (hl : ms.length ≤ 1000)
    (hs : ∀ (i : Nat) m q H (R : L2.St → Hp → Prop), ms[i]? = some m → Same H1 H → H q = some (.tup (enc m)) →
      (∀ σ2, wipe σ2 vs = wipe σ vs → (∀ S : Bool → Hp → Prop, S (p m) H → tt σ2 H S) → (p m = true → ∀ S : V → Hp → Prop, S (.ref q) H → te σ2 H S) → R σ2 H) → g (.ref q) (wipe σ vs) H R)
    (hd : ∀ H, Same H1 H → LT enc H D (ms.filter p) → Qd H) :
    ∃ W : Nat → Nat → Hp → Prop, (∃ m, W 0 m (upd H1 D (.lst []))) ∧ ∀ i m H, W i m H →
      ((Itl K a).stop i H ∧ Qd H) ∨ ((Itl K a).go i H ∧ ∃ Nx : Hp → Prop, (∀ H', Nx H' → ∃ m', m' < m ∧ W (i + 1) m' H') ∧ ∀ x H', (Itl K a).yld i H x H' → g x (wipe σ vs) H' fun σ2 H2 => wipe σ2 vs = wipe σ vs ∧ tt σ2 H2 fun b H3 =>
        if b = true then te σ2 H3 fun y H4 => ∃ acc, H4 D = some (.lst acc) ∧ acc.length < sizeLine ∧ Nx (upd H4 D (.lst (acc ++ [y]))) else Nx H3) := by
  refine lc_list (K := K) (a := a) (xs := xs) (fun i H => Same H1 H ∧ LT enc H D ((ms.take i).filter p)) ⟨same_upd hD, [], upd_same, Tups.nil⟩ (fun i H _ h => SqL.of (h.1 _ _ hx)) ?_ ?_
  · rintro i x H hi ⟨s, ys, e, Ty⟩
    obtain ⟨m, q, h1, rfl, h3⟩ := T.2 i x hi
    refine hs i m q H _ h1 s (s _ _ h3) fun σ2 hw ht he => ⟨hw, ht _ ?_⟩
    have st := filter_take p h1
    cases c : p m with
    | false =>
      rw [c, if_neg Bool.false_ne_true, List.append_nil] at st
      exact iteF ⟨s, by rw [st]; exact ⟨ys, e, Ty⟩⟩
    | true =>
      rw [c, if_pos rfl] at st
      have tups : ∀ b zs, H b = some (.tup zs) → (upd H D (.lst (ys ++ [V.ref q]))) b = some (.tup zs) := fun b zs hb => by
        rw [upd_ne (fun z => by rw [z, e] at hb; cases hb)]
        exact hb
      refine iteT (he c _ ⟨_, e, ?_, same_put s hD, ?_⟩)
      · refine small1000 ?_
        rw [Ty.1]
        have z1 := List.length_filter_le p (ms.take i)
        rw [List.length_take] at z1
        omega
      · rw [st]
        refine ⟨_, upd_same, Tups.snoc (m := m) ⟨Ty.1, fun j v ev => ?_⟩ (tups _ _ (s _ _ h3))⟩
        obtain ⟨m', p', z1, z2, z3⟩ := Ty.2 j v ev
        exact ⟨m', p', z1, z2, tups _ _ z3⟩
  · rintro H ⟨s, e⟩
    rw [T.1, List.take_length] at e
    exact hd H s e
end
theorem sum_vals {α : Type} (l : List α) (f : α → Int) : l.map (fun m => V.int (f m)) = (l.map f).map V.int := by
  rw [List.map_map]
  rfl
/-! ### what the top has written -/
structure Txt (mg : Str → Option Value) : Prop where
  len : mg "len" = none
  all : mg "all" = none
  sum : mg "sum" = none
  range : mg "range" = none
  isi : mg "isinstance" = none
  int : mg "int" = none
  bool : mg "bool" = none
  tuple : mg "tuple" = none
  list : mg "list" = none
  abs : mg "abs" = none
  min : mg "min" = none
end Ebb
namespace Ebb
open PySem PySem.Spec PyProof.Rows L2
section
variable {P : Program} {w : World} {K : PySem.W.Frag} {mg : Str → Option Value} {base : Heap}
/-! ### is_full -/
theorem scFull : FnScope ["moment"] ["moment"] (defScope sFull) := ⟨rfl, rfl, rfl, by decide +kernel, rfl, by decide +kernel, by decide +kernel⟩
def spFull : Sp := fun vs H Q _ => ∃ (p : Addr) (m : Mo), vs = [.ref p] ∧ H p = some (.tup (mo m)) ∧ Q (.bl (fullB m)) H
theorem ok_full {f : Addr} {fd : FuncData} (F : Fun K "is_full" "is_full" sFull f fd) : FnOk P w K mg base CX0 1 f fd ["moment"] spFull := by
  refine F.ok scFull (fun vs H Q E h => ?_) (fun cdv A outer s H vs Q E hr h => ?_)
  · obtain ⟨p, m, rfl, _⟩ := h
    rfl
  · obtain ⟨p, m, rfl, hp, q⟩ := h
    refine ⟨_, pss_one (ps_ret (pe_cmpR op_lt (pe_ix ix_tup (pv 0) pe_int (fun _ _ => rfl)) (pe_ix ix_tup (pv 0) pe_int (fun _ _ => rfl)) (nomark _))), ?_⟩
    exact ⟨_, rfl, p, _, 2, _, rfl, rfl, SqT.of hp, atI_nat (j := 2) rfl, _, rfl, p, _, 1, _, rfl, rfl, SqT.of hp, atI_nat (j := 1) rfl, m.run, m.due, rfl, rfl, q⟩
/-! ### accepts_drop -/
theorem scAcc : FnScope ["lag", "patience", "moments", "paper", "first", "last", "window", "came", "moment"] ["lag", "patience", "moments", "paper"] (defScope sAcc) :=
  ⟨rfl, rfl, rfl, by decide +kernel, rfl, by decide +kernel, by decide +kernel⟩
def spAcc : Sp := fun vs H Q _ => ∃ (lag pat : Nat) (a p : Addr) (f l : Int) (ms : List Mo), vs = [.int (lag : Int), .int (pat : Int), .ref a, .ref p] ∧ H p = some (.tup [.int f, .int l]) ∧ LT mo H a ms ∧ ms.length ≤ 1000 ∧
  ∀ H', Same H H' → Q (.bl (paperB lag pat ms f l)) H'
theorem paper_no {lag pat : Nat} {ms : List Mo} {f l : Int} (h : f < 0 ∨ l < f ∨ (ms.length : Int) ≤ l + pat) : paperB lag pat ms f l = false := by
  unfold paperB
  rw [if_pos h]
theorem all_id (l : List Mo) (f : Mo → Bool) : ((l.map f).all id) = l.all f := by
  rw [List.all_map]
  rfl
theorem ok_acc {f fF : Addr} {fd fdF : FuncData} (F : Fun K "accepts_drop" "accepts_drop" sAcc f fd) (T : Txt mg) (FF : Fun K "is_full" "is_full" sFull fF fdF) (bF : Binds K fdF ["moment"] []) (gF : mg "is_full" = some (.ref fF)) :
    FnOk P w K mg base CX0 2 f fd ["lag", "patience", "moments", "paper"] spAcc := by
  have GF : FnOk P w K mg base CX0 1 fF fdF ["moment"] spFull := ok_full FF
  refine F.ok scAcc (fun vs H Q E h => ?_) (fun cdv A outer s H vs Q E hr h => ?_)
  · obtain ⟨lag, pat, a, p, fi, la, ms, rfl, _⟩ := h
    rfl
  · obtain ⟨lag, pat, a, p, fi, la, ms, rfl, hp, ⟨xs, hx, hT⟩, hlen, q⟩ := h
    refine ⟨_, pss_cons (ps_asg (pv 3) (pg_tup rfl (pgs_cons (pg_name (i := 4) scAcc.nd rfl (.inl rfl)) (pgs_cons (pg_name (i := 5) scAcc.nd rfl (.inl rfl)) pgs_nil))))
      (pss_cons (ps_if (PW.pt (pw_or (pt_cmpR op_lt (pv 4) pe_int (nomark _)) (pw_or (pt_cmpR op_gt (pv 4) (pv 5) (nomark _)) (pw_or1 (pt_cmpR op_ge (pe_op op_add (pv 5) (pv 1)) (pe_callB call_len_seq (by rfl) T.len PySem.boot_len (pa_cons (pv 2) pa_nil)) (nomark _))))))
        (pss_one (ps_ret pe_bl)) pss_nil)
      (pss_cons (ps_set (i := 6) scAcc.nd rfl (.inl rfl) (pe_slice sl_list (pv 2) (po_some (pe_op op_add (pv 4) (pv 0))) (po_some (pe_op op_add (pe_op op_add (pv 5) (pv 1)) pe_int))))
      (pss_cons (ps_if (pt_not (pt_val (pe_callB (cr_all rfl) (by rfl) T.all (by decide +kernel) (pa_cons (pe_lc (own := [("moment", 8)]) (g := gName 8) (tt := tYes) rfl scAcc.nd (pi_list (pv 6)) (blkOk_by (N := ["lag", "patience", "moments", "paper", "first", "last", "window", "came", "moment"]) (sc := defScope sAcc) (by decide +kernel))
          (fun _ _ _ _ _ => pg_name (i := 8) scAcc.nd rfl (.inl rfl)) (fun _ _ _ _ _ => pts_nil) (fun _ _ _ _ _ => pe_call GF hr (by rfl) gF FF.kp bF .nil pass0 (pa_cons (pv 8) pa_nil))) pa_nil))))
        (pss_one (ps_ret pe_bl)) pss_nil)
      (pss_cons (ps_set (i := 7) scAcc.nd rfl (.inl rfl) (pe_callB (cr_sum rfl) (by rfl) T.sum (by decide +kernel) (pa_cons (pe_lc (own := [("moment", 8)]) (g := gName 8) (tt := tYes) (te := tOp (rIxT K) (tVar 8) (tC (.int 0))) rfl scAcc.nd (pi_list (pe_slice sl_list (pv 2) (po_some (pv 4)) (po_some (pe_op op_add (pv 5) pe_int)))) (blkOk_by (N := ["lag", "patience", "moments", "paper", "first", "last", "window", "came", "moment"]) (sc := defScope sAcc) (by decide +kernel))
          (fun _ _ _ _ _ => pg_name (i := 8) scAcc.nd rfl (.inl rfl)) (fun _ _ _ _ _ => pts_nil) (fun _ _ _ _ _ => pe_ix ix_tup (pv 8) pe_int (fun _ _ => rfl))) pa_nil)))
      (pss_one (ps_ret (pe_cmpR op_gt (pv 7) (pe_callB (cr_sum rfl) (by rfl) T.sum (by decide +kernel) (pa_cons (pe_lc (own := [("moment", 8)]) (g := gName 8) (tt := tYes) (te := tOp (rIxT K) (tVar 8) (tC (.int 2))) rfl scAcc.nd (pi_list (pv 6)) (blkOk_by (N := ["lag", "patience", "moments", "paper", "first", "last", "window", "came", "moment"]) (sc := defScope sAcc) (by decide +kernel))
          (fun _ _ _ _ _ => pg_name (i := 8) scAcc.nd rfl (.inl rfl)) (fun _ _ _ _ _ => pts_nil) (fun _ _ _ _ _ => pe_ix ix_tup (pv 8) pe_int (fun _ _ => rfl))) pa_nil)) (nomark _)))))))), ?_⟩
    -- first, last = paper
    refine ⟨_, rfl, p, [.int fi, .int la], rfl, SqT.of hp, rfl, _, _, rfl, _, _, rfl, rfl, ?_⟩
    -- if first < 0 or first > last or last + patience >= len(moments)
    refine ⟨_, rfl, fi, 0, rfl, rfl, _, rfl, ?_⟩
    by_cases c1 : fi < 0
    · refine ifT c1 (iteT ?_)
      have e := paper_no (lag := lag) (pat := pat) (ms := ms) (f := fi) (l := la) (.inl c1)
      have z := q H (Same.refl H)
      rw [e] at z
      exact z
    refine ifF c1 ⟨_, rfl, _, rfl, fi, la, rfl, rfl, _, rfl, ?_⟩
    by_cases c2 : la < fi
    · refine ifT c2 (iteT ?_)
      have e := paper_no (lag := lag) (pat := pat) (ms := ms) (f := fi) (l := la) (.inr (.inl c2))
      have z := q H (Same.refl H)
      rw [e] at z
      exact z
    refine ifF c2 ⟨_, rfl, _, rfl, la, pat, rfl, rfl, _, rfl, a, xs, rfl, .inl (SqL.of hx), _, _, rfl, rfl, _, rfl, ?_⟩
    rw [hT.1]
    by_cases c3 : (ms.length : Int) ≤ la + pat
    · refine ifT c3 ?_
      have e := paper_no (lag := lag) (pat := pat) (ms := ms) (f := fi) (l := la) (.inr (.inr c3))
      have z := q H (Same.refl H)
      rw [e] at z
      exact z
    refine ifF c3 ?_
    -- window = moments[first + lag:last + patience + 1]
    obtain ⟨fn, rfl⟩ : ∃ n : Nat, fi = (n : Int) := ⟨fi.toNat, by omega⟩
    obtain ⟨ln, rfl⟩ : ∃ n : Nat, la = (n : Int) := ⟨la.toNat, by omega⟩
    refine ⟨_, rfl, _, rfl, _, rfl, _, _, rfl, rfl, _, rfl, _, rfl, _, rfl, _, _, rfl, rfl, _, _, rfl, rfl, _, rfl, a, xs, rfl, SqL.of hx, fun c hc => ?_⟩
    have e1 : (fn : Int) + (lag : Int) = ((fn + lag : Nat) : Int) := by omega
    have e2 : (ln : Int) + (pat : Int) + 1 = ((ln + pat + 1 : Nat) : Int) := by omega
    rw [e1, e2, cutV_eq]
    have s1 : Same H (upd H c (.lst (cut xs (fn + lag) (ln + pat + 1)))) := same_upd hc
    have hw : (upd H c (.lst (cut xs (fn + lag) (ln + pat + 1)))) c = some (.lst (cut xs (fn + lag) (ln + pat + 1))) := upd_same
    have hTw : Tups mo (upd H c (.lst (cut xs (fn + lag) (ln + pat + 1)))) (cut xs (fn + lag) (ln + pat + 1)) (cut ms (fn + lag) (ln + pat + 1)) := (hT.cut _ _).same s1
    generalize upd H c (.lst (cut xs (fn + lag) (ln + pat + 1))) = H1 at s1 hw hTw ⊢
    have lenw : (cut ms (fn + lag) (ln + pat + 1)).length ≤ 1000 := Nat.le_trans (cut_length _ _ _) hlen
    have pe : paperB lag pat ms (fn : Int) (ln : Int) = if (cut ms (fn + lag) (ln + pat + 1)).all fullB then decide (((cut ms (fn + lag) (ln + pat + 1)).map Mo.run).sum < ((cut ms fn (ln + 1)).map Mo.came).sum) else false := by
      unfold paperB
      rw [if_neg (by omega), Int.toNat_natCast, Int.toNat_natCast]
    -- if not all([is_full(moment) for moment in window])
    refine ⟨_, rfl, c, rfl, ⟨_, SqL.of hw⟩, fun D hD => ?_⟩
    refine lc_val (K := K) (fun _ => true) (fun m => V.bl (fullB m)) hw hTw hD lenw (fun i m q' H2 R hi s2 hq hR => ?_) (fun H2 s2 hD2 => ?_)
    · exact hR _ rfl (fun S h => h) (fun _ S h => ⟨_, rfl, q', m, rfl, hq, h⟩)
    have s12 := s1.trans s2
    have ef : ((cut ms (fn + lag) (ln + pat + 1)).filter fun _ => true) = cut ms (fn + lag) (ln + pat + 1) := List.filter_eq_self.mpr fun _ _ => rfl
    rw [ef] at hD2
    have hD3 : H2 D = some (.lst (((cut ms (fn + lag) (ln + pat + 1)).map fullB).map V.bl)) := by
      rw [hD2, List.map_map]
      rfl
    refine ⟨D, _, rfl, SqL.of hD3, _, rfl, ?_⟩
    rw [all_id]
    cases hall : (cut ms (fn + lag) (ln + pat + 1)).all fullB with
    | false =>
      refine iteT ?_
      have z := q H2 s12
      rw [pe, hall, if_neg Bool.false_ne_true] at z
      exact z
    | true =>
      refine iteF ?_
      -- came = sum([moment[0] for moment in moments[first:last + 1]])
      refine ⟨_, rfl, _, rfl, _, rfl, _, rfl, _, _, rfl, rfl, _, rfl, a, xs, rfl, SqL.of (s12 _ _ hx), fun c2 hc2 => ?_⟩
      have e3 : (ln : Int) + 1 = ((ln + 1 : Nat) : Int) := by omega
      rw [e3, cutV_eq]
      have s3 : Same H2 (upd H2 c2 (.lst (cut xs fn (ln + 1)))) := same_upd hc2
      have hw3 : (upd H2 c2 (.lst (cut xs fn (ln + 1)))) c2 = some (.lst (cut xs fn (ln + 1))) := upd_same
      have hT3 : Tups mo (upd H2 c2 (.lst (cut xs fn (ln + 1)))) (cut xs fn (ln + 1)) (cut ms fn (ln + 1)) := ((hT.cut _ _).same s12).same s3
      generalize upd H2 c2 (.lst (cut xs fn (ln + 1))) = H3 at s3 hw3 hT3 ⊢
      refine ⟨c2, rfl, ⟨_, SqL.of hw3⟩, fun D4 hD4 => ?_⟩
      refine lc_val (K := K) (fun _ => true) (fun m => V.int m.came) hw3 hT3 hD4 (Nat.le_trans (cut_length _ _ _) hlen) (fun i m q' H4 R hi s4 hq hR => ?_) (fun H4 s4 hD5 => ?_)
      · exact hR _ rfl (fun S h => h) (fun _ S h => ⟨_, rfl, q', _, 0, _, rfl, rfl, SqT.of hq, atI_nat (j := 0) rfl, h⟩)
      have ef2 : ((cut ms fn (ln + 1)).filter fun _ => true) = cut ms fn (ln + 1) := List.filter_eq_self.mpr fun _ _ => rfl
      rw [ef2, sum_vals] at hD5
      refine ⟨D4, _, rfl, SqL.of hD5, ?_⟩
      have s14 : Same H1 H4 := (s2.trans s3).trans s4
      -- return came > sum([moment[2] for moment in window])
      refine ⟨_, rfl, _, rfl, c, rfl, ⟨_, SqL.of (s14 _ _ hw)⟩, fun D6 hD6 => ?_⟩
      refine lc_val (K := K) (fun _ => true) (fun m => V.int m.run) (s14 _ _ hw) (hTw.same s14) hD6 lenw (fun i m q' H5 R hi s5 hq hR => ?_) (fun H6 s6 hD7 => ?_)
      · exact hR _ rfl (fun S h => h) (fun _ S h => ⟨_, rfl, q', _, 2, _, rfl, rfl, SqT.of hq, atI_nat (j := 2) rfl, h⟩)
      rw [ef, sum_vals] at hD7
      refine ⟨D6, _, rfl, SqL.of hD7, _, _, rfl, rfl, ?_⟩
      have z := q H6 ((s1.trans s14).trans s6)
      rw [pe, hall, if_pos rfl] at z
      exact z
end
end Ebb
namespace Ebb
open PySem PySem.Spec PyProof.Rows L2
/-! ### X(), X an own exception class without own __init__ -/
section
variable {X : Cx} {C : Addr} {bmB : List Value} {B newId initId : String}
theorem pmk_own0 {x : Str} {p pos : Pos} (F : ExcBaseFacts B newId initId bmB) (q : PySem.W.excIn X.K C bmB newId = true) (gC : X.mg x = some (.ref C)) (kC : PySem.W.keepIn X.K (.ref C) = true) (r : Raises X (.ref C)) (hg : Gl X x)
    (hdb : (x == ("__debug__" : Str)) = false := by decide) : PMk X (.Call (.Name x p) [] [] pos) (fun _ H Q => Q (.ref C) none H) := by
  intro pins s σ H Q I h
  refine wpAny_Call_Name_kw (ld_glob I hg gC ?_ hdb)
  refine PySem.W.callWith_K0 I.kIn kC ?_
  obtain ⟨bm, N, nm, qn, bs, hdct, sn, sub, ab, col, dd, k0, k1, k2, k3, k5, mN, hC, hN, hni, T⟩ := exc_obj I.kIn q
  exact wpAny_call_exc_subT F T hC hN hni (fun h' e hm => mk_of I hm r h (I.hok.gone hm.new)) (Nat.zero_le _)
end
/-- what the top has written of NotFound -/
structure ErrTxt (K : PySem.W.Frag) (mg : Str → Option Value) (C : Addr) : Prop where
  g : mg "NotFound" = some (.ref C)
  x : PySem.W.excIn K C [.type "ValueError", .type "Exception", .type "BaseException", .type "object"] "ValueError.__new__" = true
  k : PySem.W.keepIn K (.ref C) = true
  b : PySem.W.subIn K (.ref C) (.type "BaseException") = some true
  t : PySem.W.typeIn K (.ref C) = some (.type "type")
  m : PySem.W.exmOne K (.ref C) (.ref C) = some true
section
variable {P : Program} {w : World} {K : PySem.W.Frag} {mg : Str → Option Value} {base : Heap} {C : Addr}
/-! ### make_drop -/
theorem scMake : FnScope ["lag", "patience", "moments", "u", "last", "first"] ["lag", "patience", "moments", "u"] (defScope sMake) :=
  ⟨rfl, rfl, rfl, by decide +kernel, rfl, by decide +kernel, by decide +kernel⟩
/-- the moment u dropped jobs -/
def Drops (ms : List Mo) (u : Int) : Prop := 0 ≤ u ∧ ∃ m, ms[u.toNat]? = some m ∧ m.dropped ≠ 0
/-- f is the greatest first of a paper for the moment u -/
structure Best (lag pat : Nat) (ms : List Mo) (u f : Int) : Prop where
  lo : 0 ≤ f
  hi : f ≤ u - pat
  ok : paperB lag pat ms f (u - pat) = true
  no : ∀ g, f < g → g ≤ u - pat → paperB lag pat ms g (u - pat) = false
def spMake (C : Addr) : Sp := fun vs H Q E => ∃ (lag pat : Nat) (a : Addr) (u : Int) (ms : List Mo), vs = [.int (lag : Int), .int (pat : Int), .ref a, .int u] ∧ LT mo H a ms ∧ ms.length ≤ 1000 ∧ -1000 ≤ u ∧ pat ≤ 1000 ∧
  (Drops ms u → (∃ f : Int, 0 ≤ f ∧ f ≤ u - pat ∧ paperB lag pat ms f (u - pat) = true) ∧ ∀ f H' p, Best lag pat ms u f → Same H H' → H' p = some (.tup [.int f, .int (u - pat)]) → Q (.ref p) H') ∧
  (¬ Drops ms u → ∀ H', Same H H' → E (.ref C) none H')
theorem ok_make {f fA fF : Addr} {fd fdA fdF : FuncData} (F : Fun K "make_drop" "make_drop" sMake f fd) (T : Txt mg) (TE : ErrTxt K mg C) (FA : Fun K "accepts_drop" "accepts_drop" sAcc fA fdA) (bA : Binds K fdA ["lag", "patience", "moments", "paper"] []) (gA : mg "accepts_drop" = some (.ref fA))
    (FF : Fun K "is_full" "is_full" sFull fF fdF) (bF : Binds K fdF ["moment"] []) (gF : mg "is_full" = some (.ref fF)) : FnOk P w K mg base (L2.CX P w) 3 f fd ["lag", "patience", "moments", "u"] (spMake C) := by
  have GA : FnOk P w K mg base CX0 2 fA fdA ["lag", "patience", "moments", "paper"] spAcc := ok_acc FA T FF bF gF
  refine F.okX scMake (fun vs H Q E h => ?_) (fun cdv A outer s H vs Q E hr h => ?_)
  · obtain ⟨lag, pat, a, u, ms, rfl, _⟩ := h
    rfl
  · obtain ⟨lag, pat, a, u, ms, rfl, hL, hlen, hu, hpat, good, bad⟩ := h
    refine ⟨_, pss_cons (ps_if (PW.pt (pw_or (pt_cmpR op_lt (pv 3) pe_int (nomark _)) (pw_or (pt_cmpR op_ge (pv 3) (pe_callB call_len_seq (by rfl) T.len PySem.boot_len (pa_cons (pv 2) pa_nil)) (nomark _)) (pw_or1 (pt_cmpR op_eq (pe_ix ix_tup (pe_ix ix_list (pv 2) (pv 3) (fun _ _ => rfl)) pe_int (fun _ _ => rfl)) pe_int (nomark _))))))
        (pss_one (ps_raise rfl (takes_of rfl rfl rfl rfl) (pmk_own0 PySem.F.excBase_ValueError TE.x TE.g TE.k (raises_own TE.b TE.t) (by exact rfl)))) pss_nil)
      (pss_cons (ps_set (i := 4) scMake.nd rfl (.inl rfl) (pe_op op_sub (pv 3) (pv 1)))
      (pss_cons (ps_for (passes_of rfl) rfl (pi_range3 rfl T.range (pa_cons (pv 4) (pa_cons (pe_un un_neg pe_int) (pa_cons (pe_un un_neg pe_int) pa_nil)))) (pg_name (i := 5) scMake.nd rfl (.inl rfl))
        (pss_one (ps_if (pt_val (pe_call GA hr (by rfl) gA FA.kp bA .nil pass0 (pa_cons (pv 0) (pa_cons (pv 1) (pa_cons (pv 2) (pa_cons (pe_tup (pa_cons (pv 5) (pa_cons (pv 4) pa_nil))) pa_nil)))))) (pss_one (ps_ret (pe_tup (pa_cons (pv 5) (pa_cons (pv 4) pa_nil))))) pss_nil)))
      (pss_one (ps_raise rfl (takes_of rfl rfl rfl rfl) (pmk_own0 PySem.F.excBase_ValueError TE.x TE.g TE.k (raises_own TE.b TE.t) (by exact rfl)))))), ?_⟩
    obtain ⟨xs, hx, hT⟩ := id hL
    have nodrop : ¬ Drops ms u → E (.ref C) none H := fun z => bad z H (Same.refl H)
    -- if u < 0 or u >= len(moments) or moments[u][3] == 0
    refine ⟨_, rfl, u, 0, rfl, rfl, _, rfl, ?_⟩
    by_cases c1 : u < 0
    · exact ifT c1 (iteT (nodrop fun z => by have := z.1; omega))
    refine ifF c1 ⟨_, rfl, _, rfl, a, xs, rfl, .inl (SqL.of hx), u, _, rfl, rfl, _, rfl, ?_⟩
    rw [hT.1]
    by_cases c2 : (ms.length : Int) ≤ u
    · refine ifT c2 (iteT (nodrop fun z => ?_))
      obtain ⟨h0, m, hm, _⟩ := z
      have := (List.getElem?_eq_some_iff.mp hm).1
      omega
    obtain ⟨n, rfl⟩ : ∃ n : Nat, u = (n : Int) := ⟨u.toNat, by omega⟩
    have hn : n < ms.length := by omega
    obtain ⟨p, hp, ht⟩ := hT.get (List.getElem?_eq_getElem hn)
    refine ifF c2 ⟨_, rfl, _, rfl, a, xs, n, _, rfl, rfl, SqL.of hx, atI_nat hp, p, _, 3, _, rfl, rfl, SqT.of ht, atI_nat (j := 3) rfl, rfl, _, rfl, ?_⟩
    by_cases c3 : V.int ms[n].dropped = V.int 0
    · refine ifT c3 (nodrop fun z => ?_)
      obtain ⟨h0, m, hm, hd⟩ := z
      rw [Int.toNat_natCast, List.getElem?_eq_getElem hn] at hm
      cases hm
      exact hd (V.int.inj c3)
    have dr : Drops ms (n : Int) := ⟨by omega, ms[n], by rw [Int.toNat_natCast]; exact List.getElem?_eq_getElem hn, fun z => c3 (congrArg V.int z)⟩
    obtain ⟨⟨f0, f1, f2, f3⟩, good⟩ := good dr
    refine ifF c3 ?_
    -- last = u - patience
    refine ⟨_, rfl, _, rfl, _, _, rfl, rfl, ?_⟩
    -- for first in range(last, -1, -1)
    refine ⟨_, rfl, 1, rfl, 1, rfl, _, _, _, _, rfl, RgC.neg (i := (n : Int) - (pat : Int)) (j := -1) (by omega) (by omega) (by decide) (by decide), ?_⟩
    refine for_rangeC (lo := (n : Int) - (pat : Int)) (c := -1) (fun i σ H' => Same H H' ∧ (∃ v : Option V, σ = [some (.int (lag : Int)), some (.int (pat : Int)), some (.ref a), some (.int (n : Int)), some (.int ((n : Int) - (pat : Int))), v]) ∧
      ∀ g, (n : Int) - (pat : Int) - (i : Int) < g → g ≤ (n : Int) - (pat : Int) → paperB lag pat ms g ((n : Int) - (pat : Int)) = false) ⟨Same.refl H, ⟨none, rfl⟩, fun g h1 h2 => by omega⟩ ?_ ?_
    · rintro i σ H1 hi ⟨s1, ⟨v, rfl⟩, hno⟩
      have ei : (n : Int) - (pat : Int) + (i : Int) * -1 = (n : Int) - (pat : Int) - (i : Int) := by omega
      rw [ei]
      -- if accepts_drop(lag, patience, moments, (first, last))
      refine ⟨_, rfl, _, rfl, _, rfl, _, rfl, _, rfl, (by show 2 ≤ sizeLine; decide), fun q hq => ?_⟩
      have s2 : Same H1 (upd H1 q (.tup [.int ((n : Int) - (pat : Int) - (i : Int)), .int ((n : Int) - (pat : Int))])) := same_upd hq
      refine ⟨lag, pat, a, q, _, _, ms, rfl, upd_same, hL.same (s1.trans s2), hlen, fun H2 s3 => ⟨_, rfl, ?_⟩⟩
      have s4 : Same H H2 := (s1.trans s2).trans s3
      by_cases c : paperB lag pat ms ((n : Int) - (pat : Int) - (i : Int)) ((n : Int) - (pat : Int)) = true
      · refine boolT c ?_
        refine ⟨_, rfl, _, rfl, (by show 2 ≤ sizeLine; decide), fun r hr => ?_⟩
        exact good ((n : Int) - (pat : Int) - (i : Int)) _ r ⟨by omega, by omega, c, fun g h1 h2 => hno g h1 h2⟩ (s4.trans (same_upd hr)) upd_same
      · have c : paperB lag pat ms ((n : Int) - (pat : Int) - (i : Int)) ((n : Int) - (pat : Int)) = false := Bool.eq_false_iff.mpr c
        refine boolF c ⟨s4, ⟨_, rfl⟩, fun g h1 h2 => ?_⟩
        by_cases eg : g = (n : Int) - (pat : Int) - (i : Int)
        · rw [eg]
          exact c
        · exact hno g (by omega) h2
    · rintro σ H1 ⟨_, _, hno⟩
      have z := hno f0 (by omega) f2
      rw [f3] at z
      cases z
end
end Ebb
namespace Ebb
open PySem PySem.Spec PyProof.Rows L2
section
variable {P : Program} {w : World} {K : PySem.W.Frag} {mg : Str → Option Value} {base : Heap}
/-! ### _law_paper -/
theorem scPaper : FnScope ["_law_lag", "_law_patience", "_law_moments", "_law_first", "_law_last", "_law_window", "_law_moment", "_law_came"] ["_law_lag", "_law_patience", "_law_moments", "_law_first", "_law_last"] (defScope sPaper) :=
  ⟨rfl, rfl, rfl, by decide +kernel, rfl, by decide +kernel, by decide +kernel⟩
def spPaper : Sp := fun vs H Q _ => ∃ (lag pat : Nat) (a : Addr) (f l : Int) (ms : List Mo), vs = [.int (lag : Int), .int (pat : Int), .ref a, .int f, .int l] ∧ LT mo H a ms ∧ ms.length ≤ 1000 ∧
  ∀ H', Same H H' → Q (.bl (paperB lag pat ms f l)) H'
theorem all_take {l : List Mo} {f : Mo → Bool} {i : Nat} {m : Mo} (h : l[i]? = some m) : (l.take (i + 1)).all f = ((l.take i).all f && f m) := by
  rw [List.take_add_one, h, List.all_append]
  show (_ && (f m && true)) = _
  rw [Bool.and_true]
theorem all_of_take {l : List Mo} {f : Mo → Bool} {i : Nat} {m : Mo} (h : l[i]? = some m) (hm : f m = false) : l.all f = false := by
  refine Bool.eq_false_iff.mpr fun z => ?_
  rw [List.all_eq_true] at z
  have := z m (List.mem_of_getElem? h)
  rw [hm] at this
  cases this
theorem ok_paper {f : Addr} {fd : FuncData} (F : Fun K "_law_paper" "_law_paper" sPaper f fd) (T : Txt mg) :
    FnOk P w K mg base CX0 1 f fd ["_law_lag", "_law_patience", "_law_moments", "_law_first", "_law_last"] spPaper := by
  refine F.ok scPaper (fun vs H Q E h => ?_) (fun cdv A outer s H vs Q E hr h => ?_)
  · obtain ⟨lag, pat, a, fi, la, ms, rfl, _⟩ := h
    rfl
  · obtain ⟨lag, pat, a, fi, la, ms, rfl, ⟨xs, hx, hT⟩, hlen, q⟩ := h
    refine ⟨_, pss_cons (ps_if (PW.pt (pw_or (pt_cmpR op_lt (pv 3) pe_int (nomark _)) (pw_or (pt_cmpR op_gt (pv 3) (pv 4) (nomark _)) (pw_or1 (pt_cmpR op_ge (pe_op op_add (pv 4) (pv 1)) (pe_callB call_len_seq (by rfl) T.len PySem.boot_len (pa_cons (pv 2) pa_nil)) (nomark _))))))
        (pss_one (ps_ret pe_bl)) pss_nil)
      (pss_cons (ps_set (i := 5) scPaper.nd rfl (.inl rfl) (pe_slice sl_list (pv 2) (po_some (pe_op op_add (pv 3) (pv 0))) (po_some (pe_op op_add (pe_op op_add (pv 4) (pv 1)) pe_int))))
      (pss_cons (ps_for PassesOwn.never rfl (pi_list (pv 5)) (pg_name (i := 6) scPaper.nd rfl (.inl rfl))
        (pss_one (ps_if (pt_cmpR op_ge (pe_ix ix_tup (pv 6) pe_int (fun _ _ => rfl)) (pe_ix ix_tup (pv 6) pe_int (fun _ _ => rfl)) (nomark _)) (pss_one (ps_ret pe_bl)) pss_nil)))
      (pss_cons (ps_set (i := 7) scPaper.nd rfl (.inl rfl) (pe_callB (cr_sum rfl) (by rfl) T.sum (by decide +kernel) (pa_cons (pe_lc (own := [("_law_moment", 6)]) (g := gName 6) (tt := tYes) (te := tOp (rIxT K) (tVar 6) (tC (.int 0))) rfl scPaper.nd (pi_list (pe_slice sl_list (pv 2) (po_some (pv 3)) (po_some (pe_op op_add (pv 4) pe_int)))) (blkOk_by (N := ["_law_lag", "_law_patience", "_law_moments", "_law_first", "_law_last", "_law_window", "_law_moment", "_law_came"]) (sc := defScope sPaper) (by decide +kernel))
          (fun _ _ _ _ _ => pg_name (i := 6) scPaper.nd rfl (.inl rfl)) (fun _ _ _ _ _ => pts_nil) (fun _ _ _ _ _ => pe_ix ix_tup (pv 6) pe_int (fun _ _ => rfl))) pa_nil)))
      (pss_one (ps_ret (pe_cmpR op_gt (pv 7) (pe_callB (cr_sum rfl) (by rfl) T.sum (by decide +kernel) (pa_cons (pe_lc (own := [("_law_moment", 6)]) (g := gName 6) (tt := tYes) (te := tOp (rIxT K) (tVar 6) (tC (.int 2))) rfl scPaper.nd (pi_list (pv 5)) (blkOk_by (N := ["_law_lag", "_law_patience", "_law_moments", "_law_first", "_law_last", "_law_window", "_law_moment", "_law_came"]) (sc := defScope sPaper) (by decide +kernel))
          (fun _ _ _ _ _ => pg_name (i := 6) scPaper.nd rfl (.inl rfl)) (fun _ _ _ _ _ => pts_nil) (fun _ _ _ _ _ => pe_ix ix_tup (pv 6) pe_int (fun _ _ => rfl))) pa_nil)) (nomark _))))))), ?_⟩
    -- if first < 0 or first > last or last + patience >= len(moments)
    refine ⟨_, rfl, fi, 0, rfl, rfl, _, rfl, ?_⟩
    by_cases c1 : fi < 0
    · refine ifT c1 (iteT ?_)
      have e := paper_no (lag := lag) (pat := pat) (ms := ms) (f := fi) (l := la) (.inl c1)
      have z := q H (Same.refl H)
      rw [e] at z
      exact z
    refine ifF c1 ⟨_, rfl, _, rfl, fi, la, rfl, rfl, _, rfl, ?_⟩
    by_cases c2 : la < fi
    · refine ifT c2 (iteT ?_)
      have e := paper_no (lag := lag) (pat := pat) (ms := ms) (f := fi) (l := la) (.inr (.inl c2))
      have z := q H (Same.refl H)
      rw [e] at z
      exact z
    refine ifF c2 ⟨_, rfl, _, rfl, la, pat, rfl, rfl, _, rfl, a, xs, rfl, .inl (SqL.of hx), _, _, rfl, rfl, _, rfl, ?_⟩
    rw [hT.1]
    by_cases c3 : (ms.length : Int) ≤ la + pat
    · refine ifT c3 ?_
      have e := paper_no (lag := lag) (pat := pat) (ms := ms) (f := fi) (l := la) (.inr (.inr c3))
      have z := q H (Same.refl H)
      rw [e] at z
      exact z
    refine ifF c3 ?_
    -- window = moments[first + lag:last + patience + 1]
    obtain ⟨fn, rfl⟩ : ∃ n : Nat, fi = (n : Int) := ⟨fi.toNat, by omega⟩
    obtain ⟨ln, rfl⟩ : ∃ n : Nat, la = (n : Int) := ⟨la.toNat, by omega⟩
    refine ⟨_, rfl, _, rfl, _, rfl, _, _, rfl, rfl, _, rfl, _, rfl, _, rfl, _, _, rfl, rfl, _, _, rfl, rfl, _, rfl, a, xs, rfl, SqL.of hx, fun c hc => ?_⟩
    have e1 : (fn : Int) + (lag : Int) = ((fn + lag : Nat) : Int) := by omega
    have e2 : (ln : Int) + (pat : Int) + 1 = ((ln + pat + 1 : Nat) : Int) := by omega
    rw [e1, e2, cutV_eq]
    have s1 : Same H (upd H c (.lst (cut xs (fn + lag) (ln + pat + 1)))) := same_upd hc
    have hw : (upd H c (.lst (cut xs (fn + lag) (ln + pat + 1)))) c = some (.lst (cut xs (fn + lag) (ln + pat + 1))) := upd_same
    have hTw : Tups mo (upd H c (.lst (cut xs (fn + lag) (ln + pat + 1)))) (cut xs (fn + lag) (ln + pat + 1)) (cut ms (fn + lag) (ln + pat + 1)) := (hT.cut _ _).same s1
    generalize upd H c (.lst (cut xs (fn + lag) (ln + pat + 1))) = H1 at s1 hw hTw ⊢
    have lenw : (cut ms (fn + lag) (ln + pat + 1)).length ≤ 1000 := Nat.le_trans (cut_length _ _ _) hlen
    have pe : paperB lag pat ms (fn : Int) (ln : Int) = if (cut ms (fn + lag) (ln + pat + 1)).all fullB then decide (((cut ms (fn + lag) (ln + pat + 1)).map Mo.run).sum < ((cut ms fn (ln + 1)).map Mo.came).sum) else false := by
      unfold paperB
      rw [if_neg (by omega), Int.toNat_natCast, Int.toNat_natCast]
    -- for moment in window
    refine ⟨_, rfl, c, rfl, ⟨_, SqL.of hw⟩, for_list (K := K) (a := c) (xs := cut xs (fn + lag) (ln + pat + 1)) (fun i σ H' => H' = H1 ∧ (∃ v : Option V, σ = [some (.int (lag : Int)), some (.int (pat : Int)), some (.ref a), some (.int (fn : Int)), some (.int (ln : Int)), some (.ref c), v, none]) ∧
      ((cut ms (fn + lag) (ln + pat + 1)).take i).all fullB = true) ⟨rfl, ⟨none, rfl⟩, rfl⟩ (fun i σ H' _ h => by rw [h.1]; exact SqL.of hw) ?_ ?_⟩
    · rintro i x σ H2 hi ⟨rfl, ⟨v, rfl⟩, hall⟩
      obtain ⟨m, t, h1, rfl, h3⟩ := hTw.2 i x hi
      refine ⟨_, rfl, t, _, 2, _, rfl, rfl, SqT.of h3, atI_nat (j := 2) rfl, _, rfl, t, _, 1, _, rfl, rfl, SqT.of h3, atI_nat (j := 1) rfl, m.run, m.due, rfl, rfl, _, rfl, ?_⟩
      by_cases cf : m.due ≤ m.run
      · refine ifT cf ?_
        have z := q _ s1
        rw [pe, all_of_take h1 (show fullB m = false from decide_eq_false (by omega)), if_neg Bool.false_ne_true] at z
        exact z
      · refine ifF cf ⟨rfl, ⟨_, rfl⟩, ?_⟩
        rw [all_take h1, hall, show fullB m = true from decide_eq_true (by omega)]
        rfl
    · rintro σ H2 ⟨rfl, ⟨v, rfl⟩, hall⟩
      rw [hTw.1, List.take_length] at hall
      -- came = sum([moment[0] for moment in moments[first:last + 1]])
      refine ⟨_, rfl, _, rfl, _, rfl, _, rfl, _, _, rfl, rfl, _, rfl, a, xs, rfl, SqL.of (s1 _ _ hx), fun c2 hc2 => ?_⟩
      have e3 : (ln : Int) + 1 = ((ln + 1 : Nat) : Int) := by omega
      rw [e3, cutV_eq]
      have s3 : Same H2 (upd H2 c2 (.lst (cut xs fn (ln + 1)))) := same_upd hc2
      have hw3 : (upd H2 c2 (.lst (cut xs fn (ln + 1)))) c2 = some (.lst (cut xs fn (ln + 1))) := upd_same
      have hT3 : Tups mo (upd H2 c2 (.lst (cut xs fn (ln + 1)))) (cut xs fn (ln + 1)) (cut ms fn (ln + 1)) := ((hT.cut _ _).same s1).same s3
      generalize upd H2 c2 (.lst (cut xs fn (ln + 1))) = H3 at s3 hw3 hT3 ⊢
      refine ⟨c2, rfl, ⟨_, SqL.of hw3⟩, fun D4 hD4 => ?_⟩
      refine lc_val (K := K) (fun _ => true) (fun m => V.int m.came) hw3 hT3 hD4 (Nat.le_trans (cut_length _ _ _) hlen) (fun i m q' H4 R hi s4 hq hR => ?_) (fun H4 s4 hD5 => ?_)
      · exact hR _ rfl (fun S h => h) (fun _ S h => ⟨_, rfl, q', _, 0, _, rfl, rfl, SqT.of hq, atI_nat (j := 0) rfl, h⟩)
      have ef2 : ((cut ms fn (ln + 1)).filter fun _ => true) = cut ms fn (ln + 1) := List.filter_eq_self.mpr fun _ _ => rfl
      rw [ef2, sum_vals] at hD5
      refine ⟨D4, _, rfl, SqL.of hD5, ?_⟩
      have s14 : Same H2 H4 := s3.trans s4
      -- return came > sum([moment[2] for moment in window])
      refine ⟨_, rfl, _, rfl, c, rfl, ⟨_, SqL.of (s14 _ _ hw)⟩, fun D6 hD6 => ?_⟩
      refine lc_val (K := K) (fun _ => true) (fun m => V.int m.run) (s14 _ _ hw) (hTw.same s14) hD6 lenw (fun i m q' H5 R hi s5 hq hR => ?_) (fun H6 s6 hD7 => ?_)
      · exact hR _ rfl (fun S h => h) (fun _ S h => ⟨_, rfl, q', _, 2, _, rfl, rfl, SqT.of hq, atI_nat (j := 2) rfl, h⟩)
      have ef : ((cut ms (fn + lag) (ln + pat + 1)).filter fun _ => true) = cut ms (fn + lag) (ln + pat + 1) := List.filter_eq_self.mpr fun _ _ => rfl
      rw [ef, sum_vals] at hD7
      refine ⟨D6, _, rfl, SqL.of hD7, _, _, rfl, rfl, ?_⟩
      have z := q H6 ((s1.trans s14).trans s6)
      rw [pe, hall, if_pos rfl] at z
      exact z
end
end Ebb
namespace Ebb
open PySem PySem.Spec PyProof.Rows L2
section
variable {P : Program} {w : World} {K : PySem.W.Frag} {mg : Str → Option Value} {base : Heap}
/-! ### _law_is_integer -/
theorem scIsInt : FnScope ["_law_actual"] ["_law_actual"] (defScope sIsInt) := ⟨rfl, rfl, rfl, by decide +kernel, rfl, by decide +kernel, by decide +kernel⟩
def spIsInt : Sp := fun vs H Q _ => ∃ i : Int, vs = [.int i] ∧ Q (.bl true) H
theorem ok_isInt {f : Addr} {fd : FuncData} (F : Fun K "_law_is_integer" "_law_is_integer" sIsInt f fd) (T : Txt mg) : FnOk P w K mg base CX0 1 f fd ["_law_actual"] spIsInt := by
  refine F.ok scIsInt (fun vs H Q E h => ?_) (fun cdv A outer s H vs Q E hr h => ?_)
  · obtain ⟨i, rfl, _⟩ := h
    rfl
  · obtain ⟨i, rfl, q⟩ := h
    refine ⟨_, pss_one (ps_ret (pe_and (pe_callB call_isi (by rfl) T.isi (by decide +kernel) (pa_cons (pv 0) (pa_cons (pe_bltn (v := .ty "int") (by rfl) T.int (by decide +kernel) rfl) pa_nil)))
      (pe_one (pe_not (pe_callB call_isi (by rfl) T.isi (by decide +kernel) (pa_cons (pv 0) (pa_cons (pe_bltn (v := .ty "bool") (by rfl) T.bool (by decide +kernel) rfl) pa_nil))))))), ?_⟩
    refine ⟨_, rfl, _, _, .type "int", .type "int", true, rfl, .ty "int", .base (.int i), kit_ty (by decide +kernel), true, rfl, iteT ?_⟩
    exact ⟨_, rfl, _, _, .type "int", .type "bool", false, rfl, .ty "bool", .base (.int i), kit_ty (by decide +kernel), false, rfl, q⟩
/-! ### _law_cell -/
theorem scCell : FnScope ["_law_script", "_law_k"] ["_law_script", "_law_k"] (defScope sCell) := ⟨rfl, rfl, rfl, by decide +kernel, rfl, by decide +kernel, by decide +kernel⟩
def spCell (K : PySem.W.Frag) : Sp := fun vs H Q _ => ∃ (a : Addr) (k : Nat) (ns : List Int), vs = [.ref a, .int (k : Int)] ∧ SqL K H a (ns.map V.int) ∧ ∀ c, Q (.int c) H
theorem ok_cell {f : Addr} {fd : FuncData} (F : Fun K "_law_cell" "_law_cell" sCell f fd) (T : Txt mg) : FnOk P w K mg base CX0 1 f fd ["_law_script", "_law_k"] (spCell K) := by
  refine F.ok scCell (fun vs H Q E h => ?_) (fun cdv A outer s H vs Q E hr h => ?_)
  · obtain ⟨a, k, ns, rfl, _⟩ := h
    rfl
  · obtain ⟨a, k, ns, rfl, hS, q⟩ := h
    refine ⟨_, pss_cons (ps_if (pt_cmpR op_lt (pv 1) (pe_callB call_len_seq (by rfl) T.len PySem.boot_len (pa_cons (pv 0) pa_nil)) (nomark _))
        (pss_one (ps_ret (pe_callTy call_int1 (by rfl) T.int (by decide +kernel) (pa_cons (pe_ix ix_list (pv 0) (pv 1) (fun _ _ => rfl)) pa_nil)))) pss_nil)
      (pss_one (ps_ret pe_int)), ?_⟩
    refine ⟨_, rfl, _, rfl, a, _, rfl, .inl hS, _, _, rfl, rfl, _, rfl, ?_⟩
    rw [List.length_map]
    by_cases c : (k : Int) < (ns.length : Int)
    · have hk : k < ns.length := by omega
      have hi : (ns.map V.int)[k]? = some (V.int ns[k]) := by
        rw [List.getElem?_map, List.getElem?_eq_getElem hk]
        rfl
      exact ifT c ⟨_, rfl, _, rfl, a, _, k, _, rfl, rfl, hS, atI_nat hi, .inl ⟨_, rfl, q _⟩⟩
    · exact ifF c (q 0)
/-! ### _law_draw: some number from 0 to many - 1 -/
theorem scDraw : FnScope ["_law_cell_here", "_law_k", "_law_many", "_law_rest", "_law_j"] ["_law_cell_here", "_law_k", "_law_many"] (defScope sDraw) := ⟨rfl, rfl, rfl, by decide +kernel, rfl, by decide +kernel, by decide +kernel⟩
def spDraw : Sp := fun vs H Q _ => ∃ c k m : Int, vs = [.int c, .int k, .int m] ∧ 0 ≤ k ∧ k ≤ 100 ∧ 0 < m ∧ ∀ r, 0 ≤ r → r < m → Q (.int r) H
theorem ok_draw {f : Addr} {fd : FuncData} (F : Fun K "_law_draw" "_law_draw" sDraw f fd) (T : Txt mg) : FnOk P w K mg base CX0 1 f fd ["_law_cell_here", "_law_k", "_law_many"] spDraw := by
  refine F.ok scDraw (fun vs H Q E h => ?_) (fun cdv A outer s H vs Q E hr h => ?_)
  · obtain ⟨c, k, m, rfl, _⟩ := h
    rfl
  · obtain ⟨c, k, m, rfl, k0, k1, m0, q⟩ := h
    refine ⟨_, pss_cons (ps_set (i := 3) scDraw.nd rfl (.inl rfl) (pe_callB call_abs (by rfl) T.abs (by decide +kernel) (pa_cons (pe_callTy call_int1 (by rfl) T.int (by decide +kernel) (pa_cons (pv 0) pa_nil)) pa_nil)))
      (pss_cons (ps_if (pt_cmpR op_lt (pv 3) pe_int (nomark _))
        (pss_cons (ps_set (i := 3) scDraw.nd rfl (.inl rfl) (pe_op op_mod (pe_callTy call_int1 (by rfl) T.int (by decide +kernel) (pa_cons (pe_op op_add (pe_op op_add (pe_op op_mul (pv 3) pe_int) (pe_op op_mul (pv 1) pe_int)) pe_int) pa_nil)) pe_int))
        (pss_cons (ps_set (i := 3) scDraw.nd rfl (.inl rfl) (pe_op op_mod (pe_callTy call_int1 (by rfl) T.int (by decide +kernel) (pa_cons (pe_op op_add (pe_op op_add (pe_op op_mul (pv 3) pe_int) (pe_op op_mul (pv 1) pe_int)) pe_int) pa_nil)) pe_int))
        (pss_one (ps_ret (pe_op op_mod (pe_callTy call_int1 (by rfl) T.int (by decide +kernel) (pa_cons (pv 3) pa_nil)) (pv 2)))))) pss_nil)
      (pss_cons (ps_for PassesOwn.never rfl (pi_range1 rfl T.range (pa_cons (pv 1) pa_nil)) (pg_name (i := 4) scDraw.nd rfl (.inl rfl)) (pss_one (ps_set (i := 3) scDraw.nd rfl (.inl rfl) (pe_op op_fdiv (pv 3) pe_int))))
      (pss_one (ps_ret (pe_op op_mod (pe_op op_mod (pe_callTy call_int1 (by rfl) T.int (by decide +kernel) (pa_cons (pv 3) pa_nil)) pe_int) (pv 2)))))), ?_⟩
    -- rest = abs(int(cell))
    refine ⟨_, rfl, .inl ⟨c, rfl, c, rfl, ?_⟩⟩
    have r0 : 0 ≤ if c < 0 then -c else c := by split <;> omega
    generalize (if c < 0 then -c else c) = r at r0 ⊢
    refine ⟨_, rfl, r, _, rfl, rfl, _, rfl, ?_⟩
    by_cases cr : r < 1000000000000000000
    · refine ifT cr ?_
      refine ⟨_, rfl, _, _, rfl, rfl, .inl ⟨by omega, by omega⟩, _, rfl, _, _, rfl, rfl, .inl ⟨by omega, by omega⟩, _, _, rfl, rfl, _, _, rfl, rfl, .inl ⟨_, rfl, _, _, rfl, rfl, (by show (0 : Int) < 2147483647; decide), ?_⟩⟩
      have b0 := Int.emod_nonneg (r * 48271 + k * 69621 + 11) (show (2147483647 : Int) ≠ 0 by decide)
      have b1 := Int.emod_lt_of_pos (r * 48271 + k * 69621 + 11) (show (0 : Int) < 2147483647 by decide)
      generalize (r * 48271 + k * 69621 + 11) % 2147483647 = r2 at b0 b1 ⊢
      refine ⟨_, rfl, _, _, rfl, rfl, .inl ⟨by omega, by omega⟩, _, rfl, _, _, rfl, rfl, .inl ⟨by omega, by omega⟩, _, _, rfl, rfl, _, _, rfl, rfl, .inl ⟨_, rfl, _, _, rfl, rfl, (by show (0 : Int) < 2147483629; decide), ?_⟩⟩
      exact ⟨_, rfl, .inl ⟨_, rfl, _, rfl, _, m, rfl, rfl, m0, q _ (Int.emod_nonneg _ (by omega)) (Int.emod_lt_of_pos _ m0)⟩⟩
    · refine ifF cr ?_
      -- for j in range(k): rest = rest // 1000
      refine ⟨_, rfl, k, rfl, by omega, by omega, for_range (lo := 0) (n := k.toNat) (fun i σ H' => H' = H ∧ ∃ (z : Int) (v : Option V), σ = [some (.int c), some (.int k), some (.int m), some (.int z), v]) ⟨rfl, r, none, rfl⟩ ?_ ?_⟩
      · rintro i σ H1 hi ⟨rfl, z, v, rfl⟩
        exact ⟨_, rfl, _, _, rfl, rfl, ⟨by decide, by decide⟩, rfl, _, _, rfl⟩
      · rintro σ H1 ⟨rfl, z, v, rfl⟩
        exact ⟨_, rfl, .inl ⟨_, rfl, _, _, rfl, rfl, (by show (0 : Int) < 1000; decide), _, rfl, _, m, rfl, rfl, m0, q _ (Int.emod_nonneg _ (by omega)) (Int.emod_lt_of_pos _ m0)⟩⟩
/-! ### _law_times -/
theorem scTimes : FnScope ["_law_cell_here", "_law_lag"] ["_law_cell_here"] (defScope sTimes) := ⟨rfl, rfl, rfl, by decide +kernel, rfl, by decide +kernel, by decide +kernel⟩
def spTimes : Sp := fun vs H Q _ => ∃ c : Int, vs = [.int c] ∧ ∀ (lag pat : Nat) H' p, lag ≤ pat → pat ≤ 20 → Same H H' → H' p = some (.tup [.int (lag : Int), .int (pat : Int)]) → Q (.ref p) H'
theorem ok_times {f fD : Addr} {fd fdD : FuncData} (F : Fun K "_law_times" "_law_times" sTimes f fd) (T : Txt mg) (FD : Fun K "_law_draw" "_law_draw" sDraw fD fdD) (bD : Binds K fdD ["_law_cell_here", "_law_k", "_law_many"] []) (gD : mg "_law_draw" = some (.ref fD)) :
    FnOk P w K mg base CX0 2 f fd ["_law_cell_here"] spTimes := by
  have GD : FnOk P w K mg base CX0 1 fD fdD ["_law_cell_here", "_law_k", "_law_many"] spDraw := ok_draw FD T
  refine F.ok scTimes (fun vs H Q E h => ?_) (fun cdv A outer s H vs Q E hr h => ?_)
  · obtain ⟨c, rfl, _⟩ := h
    rfl
  · obtain ⟨c, rfl, q⟩ := h
    refine ⟨_, pss_cons (ps_set (i := 1) scTimes.nd rfl (.inl rfl) (pe_op op_add (pe_call GD hr (by rfl) gD FD.kp bD .nil pass0 (pa_cons (pv 0) (pa_cons pe_int (pa_cons pe_int pa_nil))))
        (pe_op op_mul pe_int (pe_callTy call_int1 (by rfl) T.int (by decide +kernel) (pa_cons (pe_cmpR op_eq (pe_call GD hr (by rfl) gD FD.kp bD .nil pass0 (pa_cons (pv 0) (pa_cons pe_int (pa_cons pe_int pa_nil)))) pe_int (nomark _)) pa_nil)))))
      (pss_one (ps_ret (pe_tup (pa_cons (pv 1) (pa_cons (pe_callB (call_min2 rfl) (by rfl) T.min (by decide +kernel) (pa_cons pe_int (pa_cons (pe_op op_add (pv 1) (pe_call GD hr (by rfl) gD FD.kp bD .nil pass0 (pa_cons (pv 0) (pa_cons pe_int (pa_cons pe_int pa_nil))))) pa_nil))) pa_nil))))), ?_⟩
    refine ⟨_, rfl, c, 60, 4, rfl, by decide, by decide, by decide, fun r1 a1 a2 => ?_⟩
    refine ⟨_, rfl, c, 61, 12, rfl, by decide, by decide, by decide, fun r2 a3 a4 => ?_⟩
    refine ⟨rfl, .inr ⟨_, rfl, _, _, rfl, rfl, .inl ⟨by decide, by decide⟩, _, _, rfl, rfl, ?_⟩⟩
    obtain ⟨lag, hlag, hl⟩ : ∃ lag : Nat, r1 + 17 * (if decide (V.int r2 = V.int 0) = true then 1 else 0) = (lag : Int) ∧ lag ≤ 20 := by
      refine ⟨(r1 + 17 * (if decide (V.int r2 = V.int 0) = true then 1 else 0)).toNat, ?_, ?_⟩ <;> split <;> omega
    dsimp only
    rw [hlag]
    refine ⟨_, rfl, _, rfl, _, rfl, c, 62, 5, rfl, by decide, by decide, by decide, fun r3 a5 a6 => ?_⟩
    refine ⟨_, _, rfl, rfl, _, _, rfl, ?_⟩
    refine ⟨(by show 2 ≤ sizeLine; decide), fun p hp => ?_⟩
    obtain ⟨pat, hpat, hp1, hp2⟩ : ∃ pat : Nat, (if (lag : Int) + r3 < 20 then (lag : Int) + r3 else 20) = (pat : Int) ∧ lag ≤ pat ∧ pat ≤ 20 := by
      refine ⟨(if (lag : Int) + r3 < 20 then (lag : Int) + r3 else 20).toNat, ?_, ?_, ?_⟩ <;> split <;> omega
    refine q lag pat _ p hp1 hp2 (same_upd hp) ?_
    rw [upd_same, hpat]
end
end Ebb
namespace Ebb
open PySem PySem.Spec PyProof.Rows L2
def leftAfter : Int → List Rw → Int
  | left, [] => left
  | left, r :: rs => leftAfter (left - minI left r.2) rs
theorem takeR_snoc (r : Rw) : ∀ (left : Int) (rs : List Rw), takeR left (rs ++ [r]) = takeR left rs ++ [(r.1, r.2 - minI (leftAfter left rs) r.2)]
  | _, [] => rfl
  | left, a :: rs => by
    show (a.1, a.2 - minI left a.2) :: takeR (left - minI left a.2) (rs ++ [r]) = (a.1, a.2 - minI left a.2) :: (takeR (left - minI left a.2) rs ++ [(r.1, r.2 - minI (leftAfter (left - minI left a.2) rs) r.2)])
    rw [takeR_snoc r]
theorem leftAfter_snoc (r : Rw) : ∀ (left : Int) (rs : List Rw), leftAfter left (rs ++ [r]) = leftAfter left rs - minI (leftAfter left rs) r.2
  | _, [] => rfl
  | left, a :: rs => leftAfter_snoc r (left - minI left a.2) rs
theorem takeR_length (left : Int) (rs : List Rw) : (takeR left rs).length = rs.length := by
  have z := congrArg List.length (takeR_fst left rs)
  rw [List.length_map, List.length_map] at z
  exact z
theorem take_snoc {α : Type} {l : List α} {i : Nat} {m : α} (h : l[i]? = some m) : l.take (i + 1) = l.take i ++ [m] := by
  rw [List.take_add_one, h]
  rfl
theorem nextRows_length (lag pat : Nat) (rows : List Rw) (now : Nat) (came places : Int) : (nextRows lag pat rows now came places).length ≤ rows.length + 1 := by
  unfold nextRows restOf
  refine Nat.le_trans (List.length_filter_le _ _) ?_
  rw [takeR_length, List.length_append]
  exact Nat.le_refl _
theorem due_dec (lag now : Nat) (r : Rw) : decide ((r.1 : Int) + (lag : Int) ≤ (now : Int)) = isDue lag now r := by
  unfold isDue
  exact decide_eq_decide.mpr (by omega)
theorem cnt_sum (rs : List Rw) : (rs.map (fun r => r.2)).sum = cnt rs := rfl
section
variable {P : Program} {w : World} {K : PySem.W.Frag} {mg : Str → Option Value} {base : Heap}
def oAdd : R2 := rI0 fun i j => .int (i + j)
def oLe : R2 := rI0 fun i j => .bl (decide (i ≤ j))
def oGt : R2 := rI0 fun i j => .bl (decide (j < i))
/-! ### _law_steps -/
abbrev nSteps : List Str := ["_law_rows", "_law_lag", "_law_patience", "_law_now", "_law_came", "_law_places", "_law_due", "_law_run", "_law_left", "_law_rest", "_law_moment", "_law_count", "_law_taken", "_law_dropped", "_law_row"]
theorem scSteps : FnScope nSteps ["_law_rows", "_law_lag", "_law_patience", "_law_now", "_law_came", "_law_places"] (defScope sSteps) :=
  ⟨rfl, rfl, rfl, by decide +kernel, rfl, by decide +kernel, by decide +kernel⟩
def spSteps : Sp := fun vs H Q _ => ∃ (a : Addr) (lag pat now : Nat) (came places : Int) (rows : List Rw), vs = [.ref a, .int (lag : Int), .int (pat : Int), .int (now : Int), .int came, .int places] ∧ LT rv H a rows ∧ rows.length ≤ 900 ∧
  ∀ H' p b q, Same H H' → H b = none → LT rv H' b (nextRows lag pat rows now came places) → H' q = some (.tup (mo (momentOf lag pat rows now came places))) → H' p = some (.tup [.ref b, .ref q]) → Q (.ref p) H'
/-- row[0] + slot i <= now -/
def tDue (K : PySem.W.Frag) (i : Nat) : TT := tTest (tOp oLe (tOp oAdd (tOp (rIxT K) (tVar 14) (tC (.int 0))) (tVar i)) (tVar 3))
/-- row[0] + patience > now and row[1] > 0 -/
def tStays (K : PySem.W.Frag) : TT := tAnd (tTest (tOp oGt (tOp oAdd (tOp (rIxT K) (tVar 14) (tC (.int 0))) (tVar 2)) (tVar 3))) (tTest (tOp oGt (tOp (rIxT K) (tVar 14) (tC (.int 1))) (tC (.int 0))))
theorem ok_steps {f : Addr} {fd : FuncData} (F : Fun K "_law_steps" "_law_steps" sSteps f fd) (T : Txt mg) :
    FnOk P w K mg base CX0 1 f fd ["_law_rows", "_law_lag", "_law_patience", "_law_now", "_law_came", "_law_places"] spSteps := by
  refine F.ok scSteps (fun vs H Q E h => ?_) (fun cdv A outer s H vs Q E hr h => ?_)
  · obtain ⟨a, lag, pat, now, came, places, rows, rfl, _⟩ := h
    rfl
  · obtain ⟨a, lag, pat, now, came, places, rows, rfl, ⟨xs, hx, hT⟩, hlen, q⟩ := h
    refine ⟨_, pss_cons (ps_set (i := 0) scSteps.nd rfl (.inl rfl) (pe_op op_cat (pv 0) (pe_lst (pa_cons (pe_tup (pa_cons (pv 3) (pa_cons (pv 4) pa_nil))) pa_nil))))
      (pss_cons (ps_set (i := 6) scSteps.nd rfl (.inl rfl) (pe_callB (cr_sum rfl) (by rfl) T.sum (by decide +kernel) (pa_cons (pe_lc (own := [("_law_row", 14)]) (g := gName 14) (tt := tDue K 1) (te := tOp (rIxT K) (tVar 14) (tC (.int 1))) rfl scSteps.nd (pi_list (pv 0)) (blkOk_by (N := nSteps) (sc := defScope sSteps) (by decide +kernel))
          (fun _ _ _ _ _ => pg_name (i := 14) scSteps.nd rfl (.inl rfl)) (fun _ _ _ _ _ => pts_one (pt_cmpR op_le (pe_op op_add (pe_ix ix_tup (pv 14) pe_int (fun _ _ => rfl)) (pv 1)) (pv 3) (nomark _))) (fun _ _ _ _ _ => pe_ix ix_tup (pv 14) pe_int (fun _ _ => rfl))) pa_nil)))
      (pss_cons (ps_set (i := 7) scSteps.nd rfl (.inl rfl) (pe_callB (call_min2 rfl) (by rfl) T.min (by decide +kernel) (pa_cons (pv 6) (pa_cons (pv 5) pa_nil))))
      (pss_cons (ps_set (i := 8) scSteps.nd rfl (.inl rfl) (pv 7))
      (pss_cons (ps_set (i := 9) scSteps.nd rfl (.inl rfl) (pe_lst pa_nil))
      (pss_cons (ps_for PassesOwn.never rfl (pi_list (pv 0)) (pg_tup rfl (pgs_cons (pg_name (i := 10) scSteps.nd rfl (.inl rfl)) (pgs_cons (pg_name (i := 11) scSteps.nd rfl (.inl rfl)) pgs_nil)))
        (pss_cons (ps_set (i := 12) scSteps.nd rfl (.inl rfl) (pe_callB (call_min2 rfl) (by rfl) T.min (by decide +kernel) (pa_cons (pv 8) (pa_cons (pv 11) pa_nil))))
        (pss_cons (ps_set (i := 8) scSteps.nd rfl (.inl rfl) (pe_op op_sub (pv 8) (pv 12)))
        (pss_one (ps_expr (pe_bm PySem.F.plainAttrs_list PySem.F.slot_list_append PySem.F.type_list_append mt_append (pv 9) (pa_cons (pe_tup (pa_cons (pv 10) (pa_cons (pe_op op_sub (pv 11) (pv 12)) pa_nil))) pa_nil)))))))
      (pss_cons (ps_set (i := 13) scSteps.nd rfl (.inl rfl) (pe_callB (cr_sum rfl) (by rfl) T.sum (by decide +kernel) (pa_cons (pe_lc (own := [("_law_row", 14)]) (g := gName 14) (tt := tDue K 2) (te := tOp (rIxT K) (tVar 14) (tC (.int 1))) rfl scSteps.nd (pi_list (pv 9)) (blkOk_by (N := nSteps) (sc := defScope sSteps) (by decide +kernel))
          (fun _ _ _ _ _ => pg_name (i := 14) scSteps.nd rfl (.inl rfl)) (fun _ _ _ _ _ => pts_one (pt_cmpR op_le (pe_op op_add (pe_ix ix_tup (pv 14) pe_int (fun _ _ => rfl)) (pv 2)) (pv 3) (nomark _))) (fun _ _ _ _ _ => pe_ix ix_tup (pv 14) pe_int (fun _ _ => rfl))) pa_nil)))
      (pss_cons (ps_setLc (i := 9) (own := [("_law_row", 14)]) (g := gName 14) (tt := tStays K) (te := tVar 14) rfl scSteps.nd rfl rfl (sw_true rfl rfl rfl (by decide +kernel)) (pi_list (pv 9)) (blkOk_by (N := nSteps) (sc := defScope sSteps) (by decide +kernel))
          (fun _ _ _ _ _ => pg_name (i := 14) scSteps.nd rfl (.inl rfl)) (fun _ _ _ _ _ => pts_one (PW.pt (pw_and (pt_cmpR op_gt (pe_op op_add (pe_ix ix_tup (pv 14) pe_int (fun _ _ => rfl)) (pv 2)) (pv 3) (nomark _)) (pw_and1 (pt_cmpR op_gt (pe_ix ix_tup (pv 14) pe_int (fun _ _ => rfl)) pe_int (nomark _)))))) (fun _ _ _ _ _ => pv 14))
      (pss_one (ps_ret (pe_tup (pa_cons (pv 9) (pa_cons (pe_tup (pa_cons (pv 4) (pa_cons (pv 6) (pa_cons (pv 7) (pa_cons (pv 13) pa_nil))))) pa_nil)))))))))))), ?_⟩
    -- rows = rows + [(now, came)]
    refine ⟨_, rfl, _, rfl, _, rfl, (by show 2 ≤ sizeLine; decide), fun t1 ht1 => ⟨(by show 1 ≤ sizeLine; decide), fun l1 hl1 => ?_⟩⟩
    have sa : Same H (upd H t1 (.tup [.int (now : Int), .int came])) := same_upd ht1
    have sb := sa.trans (same_upd (o := .lst [.ref t1]) hl1)
    have ht2 : (upd (upd H t1 (.tup [.int (now : Int), .int came])) l1 (.lst [.ref t1])) t1 = some (.tup (rv (now, came))) := same_upd (o := .lst [.ref t1]) hl1 _ _ upd_same
    have hl2 : (upd (upd H t1 (.tup [.int (now : Int), .int came])) l1 (.lst [.ref t1])) l1 = some (.lst [.ref t1]) := upd_same
    generalize upd (upd H t1 (.tup [.int (now : Int), .int came])) l1 (.lst [.ref t1]) = H1 at sb ht2 hl2 ⊢
    have hxl : xs.length ≤ 900 := by rw [hT.1]; exact hlen
    refine ⟨a, l1, xs, _, rfl, rfl, sb _ _ hx, hl2, Nat.le_of_lt (small1000 (by show xs.length + 1 ≤ 1000; omega)), fun a1 ha1 => ?_⟩
    have sc : Same H1 (upd H1 a1 (.lst (xs ++ [.ref t1]))) := same_upd ha1
    have hT1 : Tups rv (upd H1 a1 (.lst (xs ++ [.ref t1]))) (xs ++ [.ref t1]) (rows ++ [(now, came)]) := Tups.snoc ((hT.same sb).same sc) (sc _ _ ht2)
    have hx1 : (upd H1 a1 (.lst (xs ++ [.ref t1]))) a1 = some (.lst (xs ++ [.ref t1])) := upd_same
    have s1 := sb.trans sc
    generalize upd H1 a1 (.lst (xs ++ [.ref t1])) = H2 at s1 hT1 hx1 ⊢
    generalize hxs1 : xs ++ [V.ref t1] = xs1 at hT1 hx1
    have en : nextRows lag pat rows now came places = (takeR (runOf lag now (rows ++ [(now, came)]) places) (rows ++ [(now, came)])).filter (stays pat now) := rfl
    have em : momentOf lag pat rows now came places = ⟨came, dueOf lag now (rows ++ [(now, came)]), runOf lag now (rows ++ [(now, came)]) places, dueOf pat now (takeR (runOf lag now (rows ++ [(now, came)]) places) (rows ++ [(now, came)]))⟩ := rfl
    rw [en, em] at q
    have hR : (rows ++ [(now, came)]).length ≤ 901 := by rw [List.length_append]; show rows.length + 1 ≤ 901; omega
    generalize rows ++ [(now, came)] = R at hT1 hR q
    have ixT : ∀ (j i : Nat) (σ : L2.St) (H : Hp) (t : Addr) (r : Rw) (v : V), σ[i]? = some (some (.ref t)) → H t = some (.tup (rv r)) → (rv r)[j]? = some v → ∀ S : VK, S v H → tOp (rIxT K) (tVar i) (tC (.int (j : Int))) σ H S := fun j i σ H t r v h1 h2 h3 S h =>
      ⟨_, h1, t, _, (j : Int), v, rfl, rfl, SqT.of h2, atI_nat h3, h⟩
    have due_test : ∀ (i : Nat) (lg : Nat) (σ : L2.St) (H : Hp) (t : Addr) (r : Rw), σ[14]? = some (some (.ref t)) → σ[i]? = some (some (.int (lg : Int))) → σ[3]? = some (some (.int (now : Int))) → H t = some (.tup (rv r)) → ∀ S : Bool → Hp → Prop, S (isDue lg now r) H → tDue K i σ H S := fun i lg σ H t r h1 h2 h3 h4 S h =>
      ixT 0 14 σ H t r _ h1 h4 rfl _ ⟨_, h2, (r.1 : Int), (lg : Int), rfl, rfl, _, h3, _, (now : Int), rfl, rfl, _, rfl, by rw [due_dec]; exact h⟩
    have stay_test : ∀ (σ : L2.St) (H : Hp) (t : Addr) (r : Rw), σ[14]? = some (some (.ref t)) → σ[2]? = some (some (.int (pat : Int))) → σ[3]? = some (some (.int (now : Int))) → H t = some (.tup (rv r)) → ∀ S : Bool → Hp → Prop, S (stays pat now r) H → tStays K σ H S := fun σ H t r h1 h2 h3 h4 S h => by
      refine ixT 0 14 σ H t r _ h1 h4 rfl _ ⟨_, h2, (r.1 : Int), (pat : Int), rfl, rfl, _, h3, _, (now : Int), rfl, rfl, _, rfl, ?_⟩
      unfold stays at h
      by_cases c1 : (now : Int) < (r.1 : Int) + (pat : Int)
      · refine ifT c1 (ixT 1 14 σ H t r _ h1 h4 rfl _ ⟨r.2, 0, rfl, rfl, _, rfl, ?_⟩)
        rw [decide_eq_true (show now < r.1 + pat by omega), Bool.true_and] at h
        exact h
      · refine ifF c1 ?_
        rw [decide_eq_false (show ¬ now < r.1 + pat by omega), Bool.false_and] at h
        exact h
    -- due = sum([row[1] for row in rows if row[0] + lag <= now])
    refine ⟨_, rfl, a1, rfl, ⟨_, SqL.of hx1⟩, fun D hD => ?_⟩
    refine lc_val (K := K) (isDue lag now) (fun r : Rw => V.int r.2) hx1 hT1 hD (by omega) (fun i m q' H4 R hi s4 hq hR => ?_) (fun H3 s3 hD3 => ?_)
    · exact hR _ rfl (fun S h => due_test 1 lag _ _ q' m rfl rfl rfl hq S h) (fun _ S h => ixT 1 14 _ _ q' m _ rfl hq rfl _ h)
    rw [sum_vals] at hD3
    refine ⟨D, _, rfl, SqL.of hD3, ?_⟩
    have ed : ((R.filter (isDue lag now)).map (fun r : Rw => r.2)).sum = dueOf lag now R := rfl
    rw [ed]
    -- run = min(due, places)
    refine ⟨_, rfl, _, rfl, _, _, rfl, ?_⟩
    have er : (if places < dueOf lag now R then places else dueOf lag now R) = runOf lag now R places := rfl
    rw [er]
    generalize runOf lag now R places = run at q ⊢
    generalize dueOf lag now R = due at q ⊢
    -- left = run; rest = []
    refine ⟨_, rfl, Nat.zero_le _, fun b hb => ?_⟩
    have s23 : Same H2 H3 := s3
    have s4 : Same H3 (upd H3 b (.lst [])) := same_upd hb
    -- for moment, count in rows
    refine ⟨_, rfl, a1, rfl, ⟨_, SqL.of (s4 _ _ (s23 _ _ hx1))⟩, for_list (K := K) (a := a1) (xs := xs1) (fun i σ H' => Same H3 H' ∧ (∃ v10 v11 v12 : Option V, σ = [some (.ref a1), some (.int (lag : Int)), some (.int (pat : Int)), some (.int (now : Int)), some (.int came), some (.int places), some (.int due), some (.int run), some (.int (leftAfter run (R.take i))), some (.ref b), v10, v11, v12, none, none]) ∧
      LT rv H' b (takeR run (R.take i))) ⟨s4, ⟨none, none, none, rfl⟩, [], upd_same, Tups.nil⟩ (fun i σ H' _ h => SqL.of (h.1 _ _ (s23 _ _ hx1))) ?_ ?_⟩
    · rintro i x σ H4 hi ⟨s5, ⟨v10, v11, v12, rfl⟩, ys, hy, hTy⟩
      obtain ⟨m, t, h1, rfl, h3⟩ := hT1.2 i x hi
      have h4 := s5 _ _ (s23 _ _ h3)
      refine ⟨t, [.int (m.1 : Int), .int m.2], rfl, SqT.of h4, rfl, _, _, rfl, _, _, rfl, rfl, ?_⟩
      -- taken = min(left, count); left = left - taken; rest.append((moment, count - taken))
      refine ⟨_, rfl, _, rfl, _, _, rfl, _, rfl, _, rfl, _, _, rfl, rfl, ?_⟩
      refine ⟨_, rfl, .inl ⟨rfl, _, SqL.of hy⟩, _, rfl, _, rfl, _, rfl, _, _, rfl, rfl, (by show 2 ≤ sizeLine; decide), fun p hp => ?_⟩
      have npb : b ≠ p := ne_of_none hy hp
      refine ⟨b, ys, _, rfl, rfl, by rw [upd_ne npb]; exact hy, small1000 ?_, ?_⟩
      · rw [hTy.1, takeR_length, List.length_take]
        omega
      · rw [take_snoc h1, leftAfter_snoc, takeR_snoc]
        refine ⟨same_put (same_put s5 (s5.free hp)) hb, ⟨_, _, _, rfl⟩, ys ++ [.ref p], upd_same, Tups.snoc (m := (m.1, m.2 - minI (leftAfter run (R.take i)) m.2)) ⟨hTy.1, fun j v ev => ?_⟩ ?_⟩
        · obtain ⟨m', p', z1, z2, z3⟩ := hTy.2 j v ev
          refine ⟨m', p', z1, z2, ?_⟩
          rw [upd_ne (ne_of z3 hy (by intro z; cases z)), upd_ne (ne_of_none z3 hp)]
          exact z3
        · rw [upd_ne npb.symm, upd_same]
          rfl
    · rintro σ H4 ⟨s5, ⟨v10, v11, v12, rfl⟩, hL⟩
      rw [hT1.1, List.take_length] at hL ⊢
      obtain ⟨ys, hy, hTy⟩ := hL
      have lR : (takeR run R).length ≤ 1000 := by rw [takeR_length]; omega
      generalize takeR run R = rest at hTy lR q
      -- dropped = sum([row[1] for row in rest if row[0] + patience <= now])
      refine ⟨_, rfl, b, rfl, ⟨_, SqL.of hy⟩, fun D5 hD5 => ?_⟩
      refine lc_val (K := K) (isDue pat now) (fun r : Rw => V.int r.2) hy hTy hD5 lR (fun i m q' H4 R hi s4 hq hR => ?_) (fun H6 s6 hD6 => ?_)
      · exact hR _ rfl (fun S h => due_test 2 pat _ _ q' m rfl rfl rfl hq S h) (fun _ S h => ixT 1 14 _ _ q' m _ rfl hq rfl _ h)
      rw [sum_vals] at hD6
      refine ⟨D5, _, rfl, SqL.of hD6, ?_⟩
      have ed2 : ((rest.filter (isDue pat now)).map (fun r : Rw => r.2)).sum = dueOf pat now rest := rfl
      rw [ed2]
      generalize dueOf pat now rest = dropped at q ⊢
      -- rest = [row for row in rest if row[0] + patience > now and row[1] > 0]
      refine ⟨_, rfl, b, rfl, ⟨_, SqL.of (s6 _ _ hy)⟩, fun D7 hD7 => ?_⟩
      refine lc_same (K := K) (stays pat now) (s6 _ _ hy) (hTy.same s6) hD7 lR (fun i m q' H4 R hi s4 hq hR => ?_) (fun H8 s8 hL8 => ?_)
      · exact hR _ rfl (fun S h => stay_test _ _ q' m rfl rfl rfl hq S h) (fun _ S h => ⟨_, rfl, h⟩)
      -- return (rest, (came, due, run, dropped))
      have s28 : Same H H8 := (((s1.trans s3).trans s5).trans s6).trans s8
      refine ⟨_, rfl, _, rfl, _, rfl, _, rfl, _, rfl, (by show 4 ≤ sizeLine; decide), fun t9 ht9 => ⟨(by show 2 ≤ sizeLine; decide), fun p hp => ?_⟩⟩
      have s9 : Same H8 (upd H8 t9 (.tup [.int came, .int due, .int run, .int dropped])) := same_upd ht9
      have s10 := s9.trans (same_upd (o := .tup [.ref D7, .ref t9]) hp)
      exact q _ p D7 t9 (s28.trans s10) ((((s1.trans s3).trans s5).trans s6).free hD7) (hL8.same s10) (same_upd (o := .tup [.ref D7, .ref t9]) hp _ _ upd_same) upd_same
end
end Ebb
namespace Ebb
open PySem PySem.Spec PyProof.Rows L2
/-- behind «if ..: slot i = 1000» that slot holds a number that is not negative, if it did before -/
theorem if_set {D : Ends} {σ : L2.St} {H : Hp} {b : Bool} {i : Nat} {z : Int} (h : ∀ z : Int, 0 ≤ z → D.nx (σ.set i (some (.int z))) H) (hσ : σ.set i (some (.int z)) = σ) (hz : 0 ≤ z) :
    if b = true then tAsg (tC (.int 1000)) (gName i) D σ H else tNext D σ H := by
  cases b with
  | true => exact iteT (h 1000 (by decide))
  | false =>
    refine iteF ?_
    have q := h z hz
    rw [hσ] at q
    exact q
section
variable {P : Program} {w : World} {K : PySem.W.Frag} {mg : Str → Option Value} {base : Heap}
/-! ### _law_play -/
theorem scPlay : FnScope ["_law_lag", "_law_patience", "_law_cells", "_law_most", "_law_rows", "_law_moments", "_law_k", "_law_came", "_law_places", "_law_moment"] ["_law_lag", "_law_patience", "_law_cells", "_law_most"] (defScope sPlay) :=
  ⟨rfl, rfl, rfl, by decide +kernel, rfl, by decide +kernel, by decide +kernel⟩
def spPlay (K : PySem.W.Frag) : Sp := fun vs H Q _ => ∃ (a : Addr) (lag pat : Nat) (ns : List Int), vs = [.int (lag : Int), .int (pat : Int), .ref a, .int 6] ∧ SqL K H a (ns.map V.int) ∧ ns.length ≤ 63 ∧
  ∀ rows ms H' p, Plays lag pat rows ms → ms.length ≤ 63 → Same H H' → LT mo H' p ms → Q (.ref p) H'
theorem ok_play {f fD fS : Addr} {fd fdD fdS : FuncData} (F : Fun K "_law_play" "_law_play" sPlay f fd) (T : Txt mg) (FD : Fun K "_law_draw" "_law_draw" sDraw fD fdD) (bD : Binds K fdD ["_law_cell_here", "_law_k", "_law_many"] []) (gD : mg "_law_draw" = some (.ref fD))
    (FS : Fun K "_law_steps" "_law_steps" sSteps fS fdS) (bS : Binds K fdS ["_law_rows", "_law_lag", "_law_patience", "_law_now", "_law_came", "_law_places"] []) (gS : mg "_law_steps" = some (.ref fS)) :
    FnOk P w K mg base CX0 2 f fd ["_law_lag", "_law_patience", "_law_cells", "_law_most"] (spPlay K) := by
  have GD : FnOk P w K mg base CX0 1 fD fdD ["_law_cell_here", "_law_k", "_law_many"] spDraw := ok_draw FD T
  have GS : FnOk P w K mg base CX0 1 fS fdS ["_law_rows", "_law_lag", "_law_patience", "_law_now", "_law_came", "_law_places"] spSteps := ok_steps FS T
  refine F.ok scPlay (fun vs H Q E h => ?_) (fun cdv A outer s H vs Q E hr h => ?_)
  · obtain ⟨a, lag, pat, ns, rfl, _⟩ := h
    rfl
  · obtain ⟨a, lag, pat, ns, rfl, hS, hlen, q⟩ := h
    refine ⟨_, pss_cons (ps_set (i := 4) scPlay.nd rfl (.inl rfl) (pe_lst pa_nil))
      (pss_cons (ps_set (i := 5) scPlay.nd rfl (.inl rfl) (pe_lst pa_nil))
      (pss_cons (ps_for PassesOwn.never rfl (pi_range1 rfl T.range (pa_cons (pe_callB call_len_seq (by rfl) T.len PySem.boot_len (pa_cons (pv 2) pa_nil)) pa_nil)) (pg_name (i := 6) scPlay.nd rfl (.inl rfl))
        (pss_cons (ps_set (i := 7) scPlay.nd rfl (.inl rfl) (pe_op op_mul (pe_call GD hr (by rfl) gD FD.kp bD .nil pass0 (pa_cons (pe_ix ix_list (pv 2) (pv 6) (fun _ _ => rfl)) (pa_cons pe_int (pa_cons pe_int pa_nil))))
          (pe_callTy call_int1 (by rfl) T.int (by decide +kernel) (pa_cons (pe_cmpR op_gt (pe_call GD hr (by rfl) gD FD.kp bD .nil pass0 (pa_cons (pe_ix ix_list (pv 2) (pv 6) (fun _ _ => rfl)) (pa_cons pe_int (pa_cons pe_int pa_nil)))) pe_int (nomark _)) pa_nil))))
        (pss_cons (ps_if (pt_cmpR op_eq (pe_call GD hr (by rfl) gD FD.kp bD .nil pass0 (pa_cons (pe_ix ix_list (pv 2) (pv 6) (fun _ _ => rfl)) (pa_cons pe_int (pa_cons pe_int pa_nil)))) pe_int (nomark _)) (pss_one (ps_set (i := 7) scPlay.nd rfl (.inl rfl) pe_int)) pss_nil)
        (pss_cons (ps_set (i := 8) scPlay.nd rfl (.inl rfl) (pe_call GD hr (by rfl) gD FD.kp bD .nil pass0 (pa_cons (pe_ix ix_list (pv 2) (pv 6) (fun _ _ => rfl)) (pa_cons pe_int (pa_cons (pv 3) pa_nil)))))
        (pss_cons (ps_asg (pe_call GS hr (by rfl) gS FS.kp bS .nil pass0 (pa_cons (pv 4) (pa_cons (pv 0) (pa_cons (pv 1) (pa_cons (pv 6) (pa_cons (pv 7) (pa_cons (pv 8) pa_nil))))))) (pg_tup rfl (pgs_cons (pg_name (i := 4) scPlay.nd rfl (.inl rfl)) (pgs_cons (pg_name (i := 9) scPlay.nd rfl (.inl rfl)) pgs_nil))))
        (pss_one (ps_expr (pe_bm PySem.F.plainAttrs_list PySem.F.slot_list_append PySem.F.type_list_append mt_append (pv 5) (pa_cons (pv 9) pa_nil)))))))))
      (pss_one (ps_ret (pv 5))))), ?_⟩
    -- rows = []; moments = []
    refine ⟨Nat.zero_le _, fun r0 hr0 => ?_⟩
    have s0 : Same H (upd H r0 (.lst [])) := same_upd hr0
    refine ⟨Nat.zero_le _, fun b hb => ?_⟩
    have s1 : Same (upd H r0 (.lst [])) (upd (upd H r0 (.lst [])) b (.lst [])) := same_upd hb
    have hbH : H b = none := s0.free hb
    have nrb : r0 ≠ b := ne_of_none (upd_same : (upd H r0 (.lst [])) r0 = _) hb
    -- for k in range(len(cells))
    refine ⟨_, rfl, a, _, rfl, .inl ((s0.trans s1).seq hS), _, rfl, by omega, ?_, ?_⟩
    · rw [List.length_map]
      omega
    rw [List.length_map, Int.toNat_natCast]
    refine for_range (lo := 0) (n := ns.length) (fun i σ H' => Same H H' ∧ ∃ (r : Addr) (v6 v7 v8 v9 : Option V) (rows : List Rw) (ms : List Mo), σ = [some (.int (lag : Int)), some (.int (pat : Int)), some (.ref a), some (.int 6), some (.ref r), some (.ref b), v6, v7, v8, v9] ∧
      Plays lag pat rows ms ∧ ms.length = i ∧ rows.length ≤ i ∧ LT rv H' r rows ∧ LT mo H' b ms ∧ r ≠ b) ⟨s0.trans s1, r0, none, none, none, none, [], [], rfl, .nil, rfl, Nat.le_refl _, ⟨[], s1 _ _ upd_same, Tups.nil⟩, ⟨[], upd_same, Tups.nil⟩, nrb⟩ ?_ ?_
    · rintro i σ H1 hi ⟨sH, r, v6, v7, v8, v9, rows, ms, rfl, hP, hm, hrl, hR, hM, nr⟩
      have e0 : (0 : Int) + (i : Int) = (i : Int) := by omega
      rw [e0]
      have hx : (ns.map V.int)[i]? = some (V.int ns[i]) := by
        rw [List.getElem?_map, List.getElem?_eq_getElem hi]
        rfl
      have hS1 : SqL K H1 a (ns.map V.int) := sH.seq hS
      -- came
      refine ⟨_, rfl, _, rfl, a, _, (i : Int), _, rfl, rfl, hS1, atI_nat hx, ns[i], 0, 12, rfl, by decide, by decide, by decide, fun d1 a1 a2 => ?_⟩
      refine ⟨_, rfl, _, rfl, a, _, (i : Int), _, rfl, rfl, hS1, atI_nat hx, ns[i], 1, 3, rfl, by decide, by decide, by decide, fun d2 a3 a4 => ?_⟩
      refine ⟨d2, 0, rfl, rfl, .inr ⟨_, rfl, d1, _, rfl, rfl, .inl ⟨by omega, by omega⟩, ?_⟩⟩
      dsimp only
      have c0 : 0 ≤ d1 * (if decide (0 < d2) = true then 1 else 0) := by split <;> omega
      generalize d1 * (if decide (0 < d2) = true then 1 else 0) = came at c0 ⊢
      -- if draw(..) == 0: came = 1000
      refine ⟨_, rfl, _, rfl, a, _, (i : Int), _, rfl, rfl, hS1, atI_nat hx, ns[i], 3, 20, rfl, by decide, by decide, by decide, fun d3 a5 a6 => ⟨rfl, _, rfl, ?_⟩⟩
      refine if_set (z := came) (fun came c0 => ?_) rfl c0
      -- places
      refine ⟨_, rfl, _, rfl, a, _, (i : Int), _, rfl, rfl, hS1, atI_nat hx, _, rfl, ns[i], 2, 6, rfl, by decide, by decide, by decide, fun places a7 a8 => ?_⟩
      -- rows, moment = steps(..)
      refine ⟨_, rfl, _, rfl, _, rfl, _, rfl, _, rfl, _, rfl, r, lag, pat, i, came, places, rows, rfl, hR, by omega, fun H2 p b2 t s2 n2 hR2 ht hp => ?_⟩
      refine ⟨p, [.ref b2, .ref t], rfl, SqT.of hp, rfl, _, _, rfl, _, _, rfl, rfl, ?_⟩
      -- moments.append(moment)
      obtain ⟨ys, hy, hTy⟩ := hM.same s2
      refine ⟨_, rfl, .inl ⟨rfl, _, SqL.of hy⟩, _, rfl, b, ys, _, rfl, rfl, hy, small1000 ?_, ?_⟩
      · rw [hTy.1]
        omega
      have nb2 : b2 ≠ b := (ne_of_none hM.choose_spec.1 n2).symm
      have keep : ∀ c zs, H2 c = some (.tup zs) → (upd H2 b (.lst (ys ++ [.ref t]))) c = some (.tup zs) := fun c zs e => by
        rw [upd_ne (ne_of e hy (by intro z; cases z))]
        exact e
      have tk : ∀ {α : Type} {enc : α → List V} {xs : List V} {l : List α}, Tups enc H2 xs l → Tups enc (upd H2 b (.lst (ys ++ [.ref t]))) xs l := fun {α enc xs l} T => ⟨T.1, fun j v ev => by
        obtain ⟨m', p', z1, z2, z3⟩ := T.2 j v ev
        exact ⟨m', p', z1, z2, keep _ _ z3⟩⟩
      obtain ⟨zs, hz, hTz⟩ := hR2
      rw [← hm] at hTz ht
      refine ⟨same_put (sH.trans s2) hbH, b2, _, _, _, _, _, _, rfl, hP.snoc c0 a7, by rw [List.length_append, hm]; rfl, Nat.le_trans (nextRows_length _ _ _ _ _ _) (by omega), ⟨zs, by rw [upd_ne nb2]; exact hz, tk hTz⟩, ⟨ys ++ [.ref t], upd_same, Tups.snoc (tk hTy) (keep _ _ ht)⟩, nb2⟩
    · rintro σ H1 ⟨sH, r, v6, v7, v8, v9, rows, ms, rfl, hP, hm, hrl, hR, hM, nr⟩
      exact ⟨_, rfl, q rows ms H1 b hP (by omega) sH hM⟩
end
end Ebb
namespace Ebb
open PySem PySem.Spec PyProof.Rows L2
/-! ### isinstance(e, ..), e the exception that the suite holds -/
def tIsE (K : PySem.W.Frag) (D a : Addr) (cls : Value) (d : Option Addr) (t : TA) : TE := fun σ H Q => cls = .ref D ∧ d = none ∧ tCB (rIsE K D a) t σ H Q
theorem pe_isE {X : Cx} {a D : Addr} {oe : Obj} {cls : Value} {d : Option Addr} {pn : List (Addr × Obj)} {e1 e2 : Expr} {t : TA} {p pos : Pos} (C : ExcC X.K D) (hz : Zc cls d oe) (hf : ∃ vs, oe.data = .fields vs)
    (hg : Gl (X.suite a ((a, oe) :: pn)) "isinstance") (hm : X.mg "isinstance" = none) (ha : PA (X.suite a ((a, oe) :: pn)) [e1, e2] t)
    (he : starEach [e1, e2] (X.suite a ((a, oe) :: pn)).env = (false, eval e1 (X.suite a ((a, oe) :: pn)).env) :: starEach [e2] (X.suite a ((a, oe) :: pn)).env := by rfl) (hpl : (backTo pos (starEach [e2] (X.suite a ((a, oe) :: pn)).env)).any (·.1) = false := by rfl) :
    PE (X.suite a ((a, oe) :: pn)) (.Call (.Name "isinstance" p) [e1, e2] [] pos) (tIsE X.K D a cls d t) := by
  refine ⟨fun pins s σ H Q I h => ?_⟩
  obtain ⟨ec, ed, h⟩ := h
  subst ec
  subst ed
  exact (pe_callB (call_isE C hz hf) hg hm (by decide +kernel) ha (by decide) (by decide) he hpl).run pins s σ H Q I h
/-- what the top has written of EbbError, NotFound's base -/
structure BaseTxt (K : PySem.W.Frag) (mg : Str → Option Value) (C B : Addr) : Prop where
  g : mg "EbbError" = some (.ref B)
  c : ExcC K C
  i : PySem.W.kitOne K (.ref C) (.ref B) = some true
section
variable {P : Program} {w : World} {K : PySem.W.Frag} {mg : Str → Option Value} {base : Heap} {C B : Addr}
/-! ### _law_made -/
theorem scMade : FnScope ["_law_lag", "_law_patience", "_law_moments", "_law_u", "e"] ["_law_lag", "_law_patience", "_law_moments", "_law_u"] (defScope sMade) :=
  ⟨rfl, rfl, rfl, by decide +kernel, rfl, by decide +kernel, by decide +kernel⟩
def spMade : Sp := fun vs H Q _ => ∃ (lag pat : Nat) (a : Addr) (u : Int) (ms : List Mo), vs = [.int (lag : Int), .int (pat : Int), .ref a, .int u] ∧ LT mo H a ms ∧ ms.length ≤ 1000 ∧ -1000 ≤ u ∧ pat ≤ 1000 ∧
  (Drops ms u → (∃ f : Int, 0 ≤ f ∧ f ≤ u - pat ∧ paperB lag pat ms f (u - pat) = true) ∧ ∀ f H' p, Best lag pat ms u f → Same H H' → H' p = some (.tup [.int f, .int (u - pat)]) → Q (.ref p) H') ∧
  (¬ Drops ms u → ∀ H', Same H H' → Q .non H')
/-- return None if isinstance(e, EbbError) else 0 -/
def tsMade (K : PySem.W.Frag) (C B : Addr) : Addr → Value → Option Addr → TS := fun a cls d => tRet (tIf (tB (tIsE K C a cls d (tCons (tVar 4) (tCons (tC (.ref B)) tNil)))) (tC .non) (tC (.int 0)))
theorem ok_made {f fM fA fF : Addr} {fd fdM fdA fdF : FuncData} (F : Fun K "_law_made" "_law_made" sMade f fd) (T : Txt mg) (TE : ErrTxt K mg C) (TB : BaseTxt K mg C B)
    (FM : Fun K "make_drop" "make_drop" sMake fM fdM) (bM : Binds K fdM ["lag", "patience", "moments", "u"] []) (gM : mg "make_drop" = some (.ref fM))
    (FA : Fun K "accepts_drop" "accepts_drop" sAcc fA fdA) (bA : Binds K fdA ["lag", "patience", "moments", "paper"] []) (gA : mg "accepts_drop" = some (.ref fA))
    (FF : Fun K "is_full" "is_full" sFull fF fdF) (bF : Binds K fdF ["moment"] []) (gF : mg "is_full" = some (.ref fF)) :
    FnOk P w K mg base CX0 4 f fd ["_law_lag", "_law_patience", "_law_moments", "_law_u"] spMade := by
  have GM : FnOk P w K mg base (L2.CX P w) 3 fM fdM ["lag", "patience", "moments", "u"] (spMake C) := ok_make FM T TE FA bA gA FF bF gF
  refine F.ok scMade (fun vs H Q E h => ?_) (fun cdv A outer s H vs Q E hr h => ?_)
  · obtain ⟨lag, pat, a, u, ms, rfl, _⟩ := h
    rfl
  · obtain ⟨lag, pat, a, u, ms, rfl, hL, hlen, hu, hpat, good, bad⟩ := h
    refine ⟨_, pss_one (ps_try_as (i := 4) (tb := fun W => tRet (tCallS (spMake C) (WE W) (tCons (tVar 0) (tCons (tVar 1) (tCons (tVar 2) (tCons (tVar 3) tNil)))))) (ts := tsMade K C B) (Wout := fun _ _ _ _ => False) rfl rfl scMade.nd rfl rfl ⟨rfl, by decide, .inl TE.g⟩ takes0
        (fun W pn xe tk _ => pss_one (ps_ret (by exact (pe_callS GM hr rfl gM FM.kp bM (fun σ => passAt tk σ) (by exact (pa_cons (pv 0) (pa_cons (pv 1) (pa_cons (pv 2) (pa_cons (pv 3) pa_nil)))))))))
        (fun a oe cls d pn hz hf => pss_one (ps_ret (pe_ifExp (pt_val (by exact (pe_isE TB.c hz hf rfl T.isi (by exact (pa_cons (pv 4) (pa_cons (pe_glob (v := .ref B) rfl TB.g rfl) pa_nil)))))) pe_non pe_int)))), ?_⟩
    refine ⟨_, rfl, _, rfl, _, rfl, _, rfl, lag, pat, a, u, ms, rfl, hL, hlen, hu, hpat, good, fun nd H1 s1 => ?_⟩
    refine ⟨true, TE.m, fun _ a0 _ => ?_, fun z => Bool.noConfusion z⟩
    exact ⟨rfl, rfl, _, rfl, .ref B, .ref B, true, rfl, fun u r => r, TB.i, true, rfl, iteT (bad nd H1 s1)⟩
end
end Ebb
namespace Ebb
open PySem PySem.Spec PyProof.Rows L2
/-! ### lists of moments as data -/
def moD (m : Mo) : PyData := .tuple [.int m.came, .int m.due, .int m.run, .int m.dropped]
theorem moD_lay (m : Mo) : (moD m).canLay0 = true := by simp [moD, PyData.canLay0, PyData.canLayAll0]
theorem moD_depth (m : Mo) : (moD m).depth ≤ 2 := by simp [moD, PyData.depth, PyData.depthAll]
theorem moDs_lay : ∀ ms : List Mo, PyData.canLayAll0 (ms.map moD) = true
  | [] => by simp [PyData.canLayAll0]
  | m :: ms => by simp [PyData.canLayAll0, moD_lay m, moDs_lay ms]
theorem moDs_depth : ∀ ms : List Mo, PyData.depthAll (ms.map moD) ≤ 2
  | [] => by simp [PyData.depthAll]
  | m :: ms => by
    have h1 := moDs_depth ms
    have h2 := moD_depth m
    simp only [List.map_cons, PyData.depthAll]
    omega
theorem moDs_shaped (ms : List Mo) : SeqAt.shaped (.list (ms.map moD)) = true := by
  have h1 := moDs_depth ms
  have h2 : PyData.depth (.list (ms.map moD)) ≤ 64 := by
    simp only [PyData.depth]
    omega
  show (PyData.canLay0 (.list (ms.map moD)) && decide (PyData.depth (.list (ms.map moD)) ≤ 64)) = true
  rw [Bool.and_eq_true]
  exact ⟨by simp only [PyData.canLay0]; exact moDs_lay ms, decide_eq_true h2⟩
theorem moDs_eqv (ms : List Mo) : PyData.eqv (.list (ms.map moD)) (.list (ms.map moD)) = true := SeqAt.eqv_refl _ (SeqAt.canLay_of_shaped (moDs_shaped ms))
theorem mo_dp {K : PySem.W.Frag} {H : Hp} {p : Addr} {m : Mo} (h : H p = some (.tup (mo m))) : Dp K H (.ref p) (moD m) :=
  .tup (SqT.of h) (.cons (.int _) (.cons (.int _) (.cons (.int _) (.cons (.int _) .nil))))
theorem mos_dp {K : PySem.W.Frag} {H : Hp} : ∀ {xs : List V} {ms : List Mo}, Tups mo H xs ms → DpAll K H xs (ms.map moD)
  | [], [], _ => .nil
  | [], m :: ms, T => by have := T.1; simp at this
  | x :: xs, [], T => by have := T.1; simp at this
  | x :: xs, m :: ms, T => by
    obtain ⟨m', p, h1, h2, h3⟩ := T.2 0 x rfl
    have e : m = m' := Option.some.inj h1
    subst e
    subst h2
    refine .cons (mo_dp h3) (mos_dp ⟨by have := T.1; simpa using this, fun i v e => ?_⟩)
    obtain ⟨m2, p2, z1, z2, z3⟩ := T.2 (i + 1) v e
    exact ⟨m2, p2, z1, z2, z3⟩
theorem cutV_ints (ns : List Int) (lo hi : Option Int) : ∃ zs : List Int, cutV (ns.map V.int) lo hi = zs.map V.int ∧ zs.length ≤ ns.length := by
  unfold cutV
  rw [← List.map_drop, ← List.map_take]
  refine ⟨_, rfl, ?_⟩
  rw [List.length_take, List.length_drop]
  omega
section
variable {P : Program} {w : World} {K : PySem.W.Frag} {mg : Str → Option Value} {base : Heap} {C B : Addr}
/-! ### the law -/
abbrev nLaw : List Str := ["_law_script", "_law_lag", "_law_patience", "_law_moments", "_law_u", "_law_given", "_law_paper_here", "_law_first", "_law_cell_here"]
theorem scLaw : FnScope nLaw ["_law_script"] (defScope sLaw) := ⟨rfl, rfl, rfl, by decide +kernel, rfl, by decide +kernel, by decide +kernel⟩
def spLaw (K : PySem.W.Frag) : Sp := fun vs H Q _ => ∃ (a : Addr) (ns : List Int), vs = [.ref a] ∧ SqL K H a (ns.map V.int) ∧ ns.length ≤ 63 ∧ ∀ H', Q (.bl true) H'
/-- a def that the law calls, as the top has written it -/
structure Def (K : PySem.W.Frag) (mg : Str → Option Value) (x : Str) (st : Stmt) (ps : List Str) (f : Addr) (fd : FuncData) : Prop where
  F : Fun K x x st f fd
  b : Binds K fd ps []
  g : mg x = some (.ref f)
theorem ok_law {f fF fA fM fI fC fD fS fP fJ fT fL : Addr} {fd fdF fdA fdM fdI fdC fdD fdS fdP fdJ fdT fdL : FuncData} (F : Fun K "law" "law" sLaw f fd) (T : Txt mg) (TE : ErrTxt K mg C) (TB : BaseTxt K mg C B)
    (DF : Def K mg "is_full" sFull ["moment"] fF fdF) (DA : Def K mg "accepts_drop" sAcc ["lag", "patience", "moments", "paper"] fA fdA) (DM : Def K mg "make_drop" sMake ["lag", "patience", "moments", "u"] fM fdM)
    (DI : Def K mg "_law_is_integer" sIsInt ["_law_actual"] fI fdI) (DC : Def K mg "_law_cell" sCell ["_law_script", "_law_k"] fC fdC) (DD : Def K mg "_law_draw" sDraw ["_law_cell_here", "_law_k", "_law_many"] fD fdD)
    (DS : Def K mg "_law_steps" sSteps ["_law_rows", "_law_lag", "_law_patience", "_law_now", "_law_came", "_law_places"] fS fdS) (DP : Def K mg "_law_play" sPlay ["_law_lag", "_law_patience", "_law_cells", "_law_most"] fP fdP)
    (DJ : Def K mg "_law_paper" sPaper ["_law_lag", "_law_patience", "_law_moments", "_law_first", "_law_last"] fJ fdJ) (DT : Def K mg "_law_times" sTimes ["_law_cell_here"] fT fdT) (DL : Def K mg "_law_made" sMade ["_law_lag", "_law_patience", "_law_moments", "_law_u"] fL fdL) :
    FnOk P w K mg base CX0 5 f fd ["_law_script"] (spLaw K) := by
  have GA : FnOk P w K mg base CX0 2 fA fdA _ spAcc := ok_acc DA.F T DF.F DF.b DF.g
  have GI : FnOk P w K mg base CX0 1 fI fdI _ spIsInt := ok_isInt DI.F T
  have GC : FnOk P w K mg base CX0 1 fC fdC _ (spCell K) := ok_cell DC.F T
  have GP : FnOk P w K mg base CX0 2 fP fdP _ (spPlay K) := ok_play DP.F T DD.F DD.b DD.g DS.F DS.b DS.g
  have GJ : FnOk P w K mg base CX0 1 fJ fdJ _ spPaper := ok_paper DJ.F T
  have GT : FnOk P w K mg base CX0 2 fT fdT _ spTimes := ok_times DT.F T DD.F DD.b DD.g
  have GL : FnOk P w K mg base CX0 4 fL fdL _ spMade := ok_made DL.F T TE TB DM.F DM.b DM.g DA.F DA.b DA.g DF.F DF.b DF.g
  refine F.ok scLaw (fun vs H Q E h => ?_) (fun cdv A outer s H vs Q E hr h => ?_)
  · obtain ⟨a, ns, rfl, _⟩ := h
    rfl
  · obtain ⟨a, ns, rfl, hS, hlen, q⟩ := h
    have hr1 : Room 1 _ := hr.mono (by decide)
    have hr2 : Room 2 _ := hr.mono (by decide)
    refine ⟨_, pss_cons (ps_asg (pe_call GT hr2 (by rfl) DT.g DT.F.kp DT.b .nil pass0 (pa_cons (pe_call GC hr1 (by rfl) DC.g DC.F.kp DC.b .nil pass0 (pa_cons (pv 0) (pa_cons pe_int pa_nil))) pa_nil)) (pg_tup rfl (pgs_cons (pg_name (i := 1) scLaw.nd rfl (.inl rfl)) (pgs_cons (pg_name (i := 2) scLaw.nd rfl (.inl rfl)) pgs_nil))))
      (pss_cons (ps_set (i := 3) scLaw.nd rfl (.inl rfl) (pe_call GP hr2 (by rfl) DP.g DP.F.kp DP.b .nil pass0 (pa_cons (pv 1) (pa_cons (pv 2) (pa_cons (pe_lc (own := [("_law_cell_here", 8)]) (g := gName 8) (tt := tYes) rfl scLaw.nd (pi_list (pe_slice sl_list (pv 0) po_none (po_some pe_int))) (blkOk_by (N := nLaw) (sc := defScope sLaw) (by decide +kernel))
          (fun _ _ _ _ _ => pg_name (i := 8) scLaw.nd rfl (.inl rfl)) (fun _ _ _ _ _ => pts_nil) (fun _ _ _ _ _ => pe_callTy call_int1 (by rfl) T.int (by decide +kernel) (pa_cons (pv 8) pa_nil))) (pa_cons pe_int pa_nil))))))
      (pss_cons (ps_for PassesOwn.never rfl (pi_range2 (by rfl) T.range (pa_cons (pe_un un_neg pe_int) (pa_cons (pe_op op_add (pe_callB call_len_seq (by rfl) T.len PySem.boot_len (pa_cons (pv 3) pa_nil)) pe_int) pa_nil))) (pg_name (i := 4) scLaw.nd rfl (.inl rfl))
        (pss_cons (ps_set (i := 5) scLaw.nd rfl (.inl rfl) (pe_callTy call_list_of (by rfl) T.list (by decide +kernel) (pa_cons (pv 3) pa_nil)))
        (pss_cons (ps_set (i := 6) scLaw.nd rfl (.inl rfl) (pe_call GL hr (by rfl) DL.g DL.F.kp DL.b .nil pass0 (pa_cons (pv 1) (pa_cons (pv 2) (pa_cons (pv 5) (pa_cons (pv 4) pa_nil))))))
        (pss_cons (ps_if (pt_cmpR (op_neD hr.units) (pv 5) (pv 3) (nomark _)) (pss_one (ps_ret pe_bl)) pss_nil)
        (pss_cons (ps_if (PW.pt (pw_or (pt_cmpR op_lt (pv 4) pe_int (nomark _)) (pw_or (pt_cmpR op_eq (pv 4) (pe_callB call_len_seq (by rfl) T.len PySem.boot_len (pa_cons (pv 3) pa_nil)) (nomark _)) (pw_or1 (pt_cmpR op_eq (pe_ix ix_tup (pe_ix ix_list (pv 3) (pv 4) (fun _ _ => rfl)) pe_int (fun _ _ => rfl)) pe_int (nomark _))))))
            (pss_cons (ps_if (pt_cmpR op_notN (pv 6) pe_non (nomark _)) (pss_one (ps_ret pe_bl)) pss_nil) (pss_one ps_continue)) pss_nil)
        (pss_cons (ps_if (PW.pt (pw_or (pt_not (pt_val (pe_callB call_isi (by rfl) T.isi (by decide +kernel) (pa_cons (pv 6) (pa_cons (pe_bltn (v := .ty "tuple") (by rfl) T.tuple (by decide +kernel) rfl) pa_nil)))))
            (pw_or (pt_cmpR op_ne (pe_callB call_len_seq (by rfl) T.len PySem.boot_len (pa_cons (pv 6) pa_nil)) pe_int (nomark _)) (pw_or1 (pt_cmpR op_ne (pe_ix ix_tup (pv 6) pe_int (fun _ _ => rfl)) (pe_op op_sub (pv 4) (pv 2)) (nomark _)))))) (pss_one (ps_ret pe_bl)) pss_nil)
        (pss_cons (ps_if (PW.pt (pw_or (pt_not (pt_val (pe_call GI hr1 (by rfl) DI.g DI.F.kp DI.b .nil pass0 (pa_cons (pe_ix ix_tup (pv 6) pe_int (fun _ _ => rfl)) pa_nil))))
            (pw_or1 (pt_cmpR op_notBl (pe_call GA hr2 (by rfl) DA.g DA.F.kp DA.b .nil pass0 (pa_cons (pv 1) (pa_cons (pv 2) (pa_cons (pv 5) (pa_cons (pv 6) pa_nil))))) pe_bl (nomark _))))) (pss_one (ps_ret pe_bl)) pss_nil)
        (pss_cons (ps_if (pt_not (pt_val (pe_call GJ hr1 (by rfl) DJ.g DJ.F.kp DJ.b .nil pass0 (pa_cons (pv 1) (pa_cons (pv 2) (pa_cons (pv 3) (pa_cons (pe_ix ix_tup (pv 6) pe_int (fun _ _ => rfl)) (pa_cons (pe_ix ix_tup (pv 6) pe_int (fun _ _ => rfl)) pa_nil)))))))) (pss_one (ps_ret pe_bl)) pss_nil)
        (pss_one (ps_for PassesOwn.never rfl (pi_range2 (by rfl) T.range (pa_cons (pe_op op_add (pe_ix ix_tup (pv 6) pe_int (fun _ _ => rfl)) pe_int) (pa_cons (pe_op op_add (pe_ix ix_tup (pv 6) pe_int (fun _ _ => rfl)) pe_int) pa_nil))) (pg_name (i := 7) scLaw.nd rfl (.inl rfl))
          (pss_one (ps_if (pt_val (pe_call GJ hr1 (by rfl) DJ.g DJ.F.kp DJ.b .nil pass0 (pa_cons (pv 1) (pa_cons (pv 2) (pa_cons (pv 3) (pa_cons (pv 7) (pa_cons (pe_ix ix_tup (pv 6) pe_int (fun _ _ => rfl)) pa_nil))))))) (pss_one (ps_ret pe_bl)) pss_nil))))))))))))
      (pss_one (ps_ret pe_bl)))), ?_⟩
    -- lag, patience = times(cell(script, 0))
    refine ⟨_, rfl, a, 0, ns, rfl, hS, fun c0 => ⟨c0, rfl, fun lag pat H1 p1 hlp hp20 s1 ht1 => ?_⟩⟩
    refine ⟨p1, [.int (lag : Int), .int (pat : Int)], rfl, SqT.of ht1, rfl, _, _, rfl, _, _, rfl, rfl, ?_⟩
    -- moments = play(lag, patience, [int(cell) for cell in script[:40]], 6)
    obtain ⟨zs, ez, hz⟩ := cutV_ints ns none (some 40)
    refine ⟨_, rfl, _, rfl, _, rfl, 40, rfl, a, _, rfl, s1.seq hS, fun c hc => ?_⟩
    rw [ez]
    have s2 : Same H1 (upd H1 c (.lst (zs.map V.int))) := same_upd hc
    have hw : (upd H1 c (.lst (zs.map V.int))) c = some (.lst (zs.map V.int)) := upd_same
    generalize upd H1 c (.lst (zs.map V.int)) = H2 at s2 hw ⊢
    refine ⟨c, rfl, ⟨_, SqL.of hw⟩, fun D hD => ?_⟩
    refine lc_list (K := K) (a := c) (xs := zs.map V.int) (fun i H' => Same H2 H' ∧ H' D = some (.lst ((zs.take i).map V.int))) ⟨same_upd hD, upd_same⟩ (fun i H' _ h => SqL.of (h.1 _ _ hw)) ?_ ?_
    · rintro i x H3 hi ⟨s3, e3⟩
      rw [List.getElem?_map] at hi
      cases e : zs[i]? with
      | none =>
        rw [e] at hi
        cases hi
      | some z =>
        rw [e] at hi
        have ex : x = V.int z := (Option.some.inj hi).symm
        subst ex
        refine ⟨rfl, iteT (B := Same H2 H3 ∧ H3 D = some (.lst ((zs.take (i + 1)).map V.int))) ⟨_, rfl, .inl ⟨_, rfl, _, e3, small1000 ?_, same_put s3 hD, ?_⟩⟩⟩
        · rw [List.length_map, List.length_take]
          omega
        · rw [upd_same, take_snoc e, List.map_append]
          rfl
    rintro H4 ⟨s4, e4⟩
    rw [List.length_map, List.take_length] at e4
    refine ⟨D, lag, pat, zs, rfl, SqL.of e4, Nat.le_trans hz hlen, fun rows ms H5 am hP hm s5 hM => ?_⟩
    obtain ⟨xs, hx, hT⟩ := id hM
    -- for u in range(-1, len(moments) + 1)
    refine ⟨1, rfl, _, rfl, am, xs, rfl, .inl (SqL.of hx), _, _, rfl, rfl, _, _, rfl, ⟨by decide, by decide, by rw [hT.1]; omega, by rw [hT.1]; omega⟩, ?_⟩
    rw [hT.1]
    refine for_range (lo := -1) (fun i σ H' => Same H5 H' ∧ ∃ v4 v5 v6 v7 : Option V, σ = [some (.ref a), some (.int (lag : Int)), some (.int (pat : Int)), some (.ref am), v4, v5, v6, v7, none]) ⟨Same.refl H5, none, none, none, none, rfl⟩ ?_ ?_
    · rintro i σ H6 hi ⟨s6, v4, v5, v6, v7, rfl⟩
      have u0 : -1 ≤ (-1 : Int) + (i : Int) := by omega
      have u1 : (-1 : Int) + (i : Int) ≤ (ms.length : Int) := by omega
      generalize (-1 : Int) + (i : Int) = u at u0 u1 ⊢
      -- given = list(moments)
      refine ⟨_, rfl, am, xs, rfl, .inl (SqL.of (s6 _ _ hx)), fun g hg => ?_⟩
      have s7 : Same H6 (upd H6 g (.lst xs)) := same_upd hg
      have s57 : Same H5 (upd H6 g (.lst xs)) := s6.trans s7
      have hgx : (upd H6 g (.lst xs)) g = some (.lst xs) := upd_same
      generalize upd H6 g (.lst xs) = H7 at s7 s57 hgx ⊢
      have hLg : LT mo H7 g ms := ⟨xs, hgx, hT.same s57⟩
      have dg : ∀ {H8 : Hp}, Same H7 H8 → Dp K H8 (.ref g) (.list (ms.map moD)) := fun {H8} s => .lst (SqL.of (s _ _ hgx)) (mos_dp (hT.same (s57.trans s)))
      have dm : ∀ {H8 : Hp}, Same H7 H8 → Dp K H8 (.ref am) (.list (ms.map moD)) := fun {H8} s => .lst (SqL.of (s _ _ (s57 _ _ hx))) (mos_dp (hT.same (s57.trans s)))
      -- paper = made(lag, patience, given, u)
      refine ⟨_, rfl, _, rfl, _, rfl, _, rfl, lag, pat, g, u, ms, rfl, hLg, by omega, by omega, by omega, fun dr => ⟨?_, fun f H8 p best s8 hp => ?_⟩, fun nd H8 s8 => ?_⟩
      · -- there is a paper
        obtain ⟨h0, m, h1, h2⟩ := dr
        obtain ⟨f, f1, f2⟩ := papers hlp hP h1 h2
        have eu : ((u.toNat : Nat) : Int) = u := by omega
        rw [eu] at f2
        exact ⟨f, by omega, by omega, f2⟩
      · -- a moment that dropped jobs
        obtain ⟨h0, m, h1, h2⟩ := dr
        have hul := (List.getElem?_eq_some_iff.mp h1).1
        obtain ⟨n, rfl⟩ : ∃ n : Nat, u = (n : Int) := ⟨u.toNat, by omega⟩
        rw [Int.toNat_natCast] at h1 hul
        obtain ⟨t, ht, htm⟩ := hT.get h1
        have s58 : Same H5 H8 := s57.trans s8
        -- if given != moments
        refine ⟨_, rfl, _, rfl, _, _, dg s8, dm s8, moDs_shaped ms, moDs_shaped ms, _, rfl, ?_⟩
        rw [moDs_eqv]
        refine iteF ?_
        -- if u < 0 or u == len(moments) or moments[u][3] == 0
        refine ⟨_, rfl, (n : Int), 0, rfl, rfl, _, rfl, ifF (by omega) ?_⟩
        refine ⟨_, rfl, _, rfl, am, xs, rfl, .inl (SqL.of (s58 _ _ hx)), rfl, _, rfl, ifF (fun z => ?_) ?_⟩
        · have z := V.int.inj z
          rw [hT.1] at z
          omega
        refine ⟨_, rfl, _, rfl, am, xs, (n : Int), _, rfl, rfl, SqL.of (s58 _ _ hx), atI_nat ht, t, _, 3, _, rfl, rfl, SqT.of (s58 _ _ htm), atI_nat (j := 3) rfl, rfl, _, rfl, ifF (fun z => h2 (V.int.inj z)) ?_⟩
        -- if not isinstance(paper, tuple) or len(paper) != 2 or paper[1] != u - patience
        refine ⟨_, rfl, _, _, .type "tuple", .type "tuple", true, rfl, .ty "tuple", .base (.tup hp), kit_ty (by decide +kernel), true, rfl, iteF ?_⟩
        refine ⟨_, rfl, p, _, rfl, .inr (SqT.of hp), rfl, _, rfl, iteNS rfl ?_⟩
        refine ⟨_, rfl, p, _, 1, _, rfl, rfl, SqT.of hp, atI_nat (j := 1) rfl, _, rfl, _, rfl, _, _, rfl, rfl, rfl, _, rfl, iteNS rfl ?_⟩
        -- if not is_integer(paper[0]) or accepts_drop(lag, patience, given, paper) is not True
        refine ⟨_, rfl, p, _, 0, _, rfl, rfl, SqT.of hp, atI_nat (j := 0) rfl, f, rfl, true, rfl, iteF ?_⟩
        refine ⟨_, rfl, _, rfl, _, rfl, _, rfl, lag, pat, g, p, f, (n : Int) - (pat : Int), ms, rfl, hp, hLg.same s8, by omega, fun H9 s9 => ⟨_, true, rfl, rfl, _, rfl, iteNS best.ok ?_⟩⟩
        have hp9 := s9 _ _ hp
        -- if not _law_paper(lag, patience, moments, paper[0], paper[1])
        refine ⟨_, rfl, _, rfl, _, rfl, _, rfl, p, _, 0, _, rfl, rfl, SqT.of hp9, atI_nat (j := 0) rfl, _, rfl, p, _, 1, _, rfl, rfl, SqT.of hp9, atI_nat (j := 1) rfl, lag, pat, am, f, (n : Int) - (pat : Int), ms, rfl, hM.same (s58.trans s9), by omega, fun H10 s10 => ⟨_, rfl, ?_⟩⟩
        rw [best.ok]
        refine iteF ?_
        have hp10 := s10 _ _ hp9
        have s510 : Same H5 H10 := (s58.trans s9).trans s10
        have b1 := best.lo
        have b2 := best.hi
        -- for first in range(paper[0] + 1, paper[1] + 1)
        refine ⟨_, rfl, p, _, 0, _, rfl, rfl, SqT.of hp10, atI_nat (j := 0) rfl, _, _, rfl, rfl, _, rfl, p, _, 1, _, rfl, rfl, SqT.of hp10, atI_nat (j := 1) rfl, _, _, rfl, rfl, _, _, rfl, ⟨by omega, by omega, by omega, by omega⟩, ?_⟩
        refine for_range (lo := f + 1) (fun j σ H' => Same H10 H' ∧ ∃ v7 : Option V, σ = [some (.ref a), some (.int (lag : Int)), some (.int (pat : Int)), some (.ref am), some (.int (n : Int)), some (.ref g), some (.ref p), v7, none]) ⟨Same.refl H10, _, rfl⟩ ?_ ?_
        · rintro j σ H11 hj ⟨s11, v7, rfl⟩
          refine ⟨_, rfl, _, rfl, _, rfl, _, rfl, _, rfl, p, _, 1, _, rfl, rfl, SqT.of (s11 _ _ hp10), atI_nat (j := 1) rfl, lag, pat, am, f + 1 + (j : Int), (n : Int) - (pat : Int), ms, rfl, hM.same (s510.trans s11), by omega, fun H12 s12 => ⟨_, rfl, ?_⟩⟩
          refine boolF (best.no _ (by omega) (by omega)) ⟨s11.trans s12, _, rfl⟩
        · rintro σ H11 ⟨s11, v7, rfl⟩
          exact ⟨s510.trans s11, _, _, _, _, rfl⟩
      · -- no job was dropped behind it
        have s58 : Same H5 H8 := s57.trans s8
        -- if given != moments
        refine ⟨_, rfl, _, rfl, _, _, dg s8, dm s8, moDs_shaped ms, moDs_shaped ms, _, rfl, ?_⟩
        rw [moDs_eqv]
        refine iteF ?_
        -- if u < 0 or u == len(moments) or moments[u][3] == 0: if paper is not None: return False; continue
        refine ⟨_, rfl, u, 0, rfl, rfl, _, rfl, ?_⟩
        by_cases c1 : u < 0
        · exact ifT c1 (iteT ⟨_, rfl, rfl, _, rfl, iteNS rfl ⟨s58, _, _, _, _, rfl⟩⟩)
        refine ifF c1 ⟨_, rfl, _, rfl, am, xs, rfl, .inl (SqL.of (s58 _ _ hx)), rfl, _, rfl, ?_⟩
        by_cases c2 : V.int u = V.int (xs.length : Int)
        · exact ifT c2 (iteT ⟨_, rfl, rfl, _, rfl, iteNS rfl ⟨s58, _, _, _, _, rfl⟩⟩)
        obtain ⟨n, rfl⟩ : ∃ n : Nat, u = (n : Int) := ⟨u.toNat, by omega⟩
        have hn : n < ms.length := by
          refine Nat.lt_of_le_of_ne (by omega) fun z => c2 ?_
          rw [hT.1, z]
        have h1 : ms[n]? = some ms[n] := List.getElem?_eq_getElem hn
        obtain ⟨t, ht, htm⟩ := hT.get h1
        refine ifF c2 ⟨_, rfl, _, rfl, am, xs, (n : Int), _, rfl, rfl, SqL.of (s58 _ _ hx), atI_nat ht, t, _, 3, _, rfl, rfl, SqT.of (s58 _ _ htm), atI_nat (j := 3) rfl, rfl, _, rfl, ?_⟩
        have hd : ms[n].dropped = 0 := Classical.byContradiction fun z => nd ⟨by omega, ms[n], by rw [Int.toNat_natCast]; exact h1, z⟩
        exact ifT (congrArg V.int hd) ⟨_, rfl, rfl, _, rfl, iteNS rfl ⟨s58, _, _, _, _, rfl⟩⟩
    · rintro σ H6 ⟨s6, v4, v5, v6, v7, rfl⟩
      exact q _
end
end Ebb
namespace Ebb
open PySem PySem.Spec PyProof.Rows L2
/-- an error of the class at S is what «except S» names -/
theorem exm_self {K : PySem.W.Frag} {S : Addr} (h1 : PySem.W.subIn K (.ref S) (.type "BaseException") = some true) (h2 : PySem.W.isClsIn K S = true) (h3 : PySem.W.typeIn K (.ref S) = some (.type "type")) (h4 : PySem.W.subIn K (.ref S) (.ref S) = some true) :
    PySem.W.exmOne K (.ref S) (.ref S) = some true := by
  have e1 : (PySem.W.subIn K (.ref S) (.type "BaseException") == some true) = true := by rw [h1] <;> rfl
  have e2 : ((PySem.W.clsIn K S).isSome && PySem.W.typeIn K (.ref S) == some (.type "type")) = true := by
    have h2' : (PySem.W.clsIn K S).isSome = true := h2
    rw [h2', h3] <;> rfl
  show (if (PySem.W.subIn K (.ref S) (.type "BaseException") == some true) = true then (if ((PySem.W.clsIn K S).isSome && PySem.W.typeIn K (.ref S) == some (.type "type")) = true then PySem.W.subIn K (.ref S) (.ref S) else none) else none) = some true
  rw [if_pos e1, if_pos e2]
  exact h4
/-- an instance of a class below the class at B -/
theorem kit_own {K : PySem.W.Frag} {t : Value} {B : Addr} (h2 : PySem.W.isClsIn K B = true) (h3 : PySem.W.typeIn K (.ref B) = some (.type "type")) (h4 : PySem.W.subIn K t (.ref B) = some true) : PySem.W.kitOne K t (.ref B) = some true := by
  have e2 : ((PySem.W.clsIn K B).isSome && PySem.W.typeIn K (.ref B) == some (.type "type")) = true := by
    have h2' : (PySem.W.clsIn K B).isSome = true := h2
    rw [h2', h3] <;> rfl
  by_cases e : (t == Value.ref B) = true
  · exact if_pos e
  · refine (if_neg e).trans ?_
    show (if ((PySem.W.clsIn K B).isSome && PySem.W.typeIn K (.ref B) == some (.type "type")) = true then PySem.W.subIn K t (.ref B) else none) = some true
    rw [if_pos e2]
    exact h4
/-! ### what the top has written, each a fact that k_is finds -/
theorem all_mk {P : Program} {w : World} {K : PySem.W.Frag} {h : Heap} {mg : Str → Option Value} {fa E B : Addr} {fF fA fM fI fC fD fS fP fJ fT fL fZ : Addr} (X : K.In h) (G : h.Ns mainGlobals mg) (hfa : mg "law" = some (.ref fa))
    {odF anF odA anA odM anM odI anI odC anC odD anD odS anS odP anP odJ anJ odT anT odL anL odZ anZ : Option Addr} {slF slA slM slI slC slD slS slP slJ slT slL slZ : Array (Option Value)} {ocF kVF dcF pmF cdF ctF ocA kVA dcA pmA cdA ctA ocM kVM dcM pmM cdM ctM ocI kVI dcI pmI cdI ctI ocC kVC dcC pmC cdC ctC ocD kVD dcD pmD cdD ctD ocS kVS dcS pmS cdS ctS ocP kVP dcP pmP cdP ctP ocJ kVJ dcJ pmJ cdJ ctJ ocT kVT dcT pmT cdT ctT ocL kVL dcL pmL cdL ctL ocZ kVZ dcZ pmZ cdZ ctZ : Value}
    (aF : PySem.W.nsIn K mainGlobals "is_full" = some (some (.ref fF))) (lF : K.lookup fF = some ⟨ocF, odF, .func (PySem.W.fnOf "is_full" "is_full" (defArgs sFull) (defBody sFull) (defScope sFull) .none kVF dcF pmF anF cdF ctF), slF⟩) (cF : PySem.W.codeIn K cdF "is_full" = true) (kF : PySem.W.keepIn K (.ref fF) = true)
    (aA : PySem.W.nsIn K mainGlobals "accepts_drop" = some (some (.ref fA))) (lA : K.lookup fA = some ⟨ocA, odA, .func (PySem.W.fnOf "accepts_drop" "accepts_drop" (defArgs sAcc) (defBody sAcc) (defScope sAcc) .none kVA dcA pmA anA cdA ctA), slA⟩) (cA : PySem.W.codeIn K cdA "accepts_drop" = true) (kA : PySem.W.keepIn K (.ref fA) = true)
    (aM : PySem.W.nsIn K mainGlobals "make_drop" = some (some (.ref fM))) (lM : K.lookup fM = some ⟨ocM, odM, .func (PySem.W.fnOf "make_drop" "make_drop" (defArgs sMake) (defBody sMake) (defScope sMake) .none kVM dcM pmM anM cdM ctM), slM⟩) (cM : PySem.W.codeIn K cdM "make_drop" = true) (kM : PySem.W.keepIn K (.ref fM) = true)
    (aI : PySem.W.nsIn K mainGlobals "_law_is_integer" = some (some (.ref fI))) (lI : K.lookup fI = some ⟨ocI, odI, .func (PySem.W.fnOf "_law_is_integer" "_law_is_integer" (defArgs sIsInt) (defBody sIsInt) (defScope sIsInt) .none kVI dcI pmI anI cdI ctI), slI⟩) (cI : PySem.W.codeIn K cdI "_law_is_integer" = true) (kI : PySem.W.keepIn K (.ref fI) = true)
    (aC : PySem.W.nsIn K mainGlobals "_law_cell" = some (some (.ref fC))) (lC : K.lookup fC = some ⟨ocC, odC, .func (PySem.W.fnOf "_law_cell" "_law_cell" (defArgs sCell) (defBody sCell) (defScope sCell) .none kVC dcC pmC anC cdC ctC), slC⟩) (cC : PySem.W.codeIn K cdC "_law_cell" = true) (kC : PySem.W.keepIn K (.ref fC) = true)
    (aD : PySem.W.nsIn K mainGlobals "_law_draw" = some (some (.ref fD))) (lD : K.lookup fD = some ⟨ocD, odD, .func (PySem.W.fnOf "_law_draw" "_law_draw" (defArgs sDraw) (defBody sDraw) (defScope sDraw) .none kVD dcD pmD anD cdD ctD), slD⟩) (cD : PySem.W.codeIn K cdD "_law_draw" = true) (kD : PySem.W.keepIn K (.ref fD) = true)
    (aS : PySem.W.nsIn K mainGlobals "_law_steps" = some (some (.ref fS))) (lS : K.lookup fS = some ⟨ocS, odS, .func (PySem.W.fnOf "_law_steps" "_law_steps" (defArgs sSteps) (defBody sSteps) (defScope sSteps) .none kVS dcS pmS anS cdS ctS), slS⟩) (cS : PySem.W.codeIn K cdS "_law_steps" = true) (kS : PySem.W.keepIn K (.ref fS) = true)
    (aP : PySem.W.nsIn K mainGlobals "_law_play" = some (some (.ref fP))) (lP : K.lookup fP = some ⟨ocP, odP, .func (PySem.W.fnOf "_law_play" "_law_play" (defArgs sPlay) (defBody sPlay) (defScope sPlay) .none kVP dcP pmP anP cdP ctP), slP⟩) (cP : PySem.W.codeIn K cdP "_law_play" = true) (kP : PySem.W.keepIn K (.ref fP) = true)
    (aJ : PySem.W.nsIn K mainGlobals "_law_paper" = some (some (.ref fJ))) (lJ : K.lookup fJ = some ⟨ocJ, odJ, .func (PySem.W.fnOf "_law_paper" "_law_paper" (defArgs sPaper) (defBody sPaper) (defScope sPaper) .none kVJ dcJ pmJ anJ cdJ ctJ), slJ⟩) (cJ : PySem.W.codeIn K cdJ "_law_paper" = true) (kJ : PySem.W.keepIn K (.ref fJ) = true)
    (aT : PySem.W.nsIn K mainGlobals "_law_times" = some (some (.ref fT))) (lT : K.lookup fT = some ⟨ocT, odT, .func (PySem.W.fnOf "_law_times" "_law_times" (defArgs sTimes) (defBody sTimes) (defScope sTimes) .none kVT dcT pmT anT cdT ctT), slT⟩) (cT : PySem.W.codeIn K cdT "_law_times" = true) (kT : PySem.W.keepIn K (.ref fT) = true)
    (aL : PySem.W.nsIn K mainGlobals "_law_made" = some (some (.ref fL))) (lL : K.lookup fL = some ⟨ocL, odL, .func (PySem.W.fnOf "_law_made" "_law_made" (defArgs sMade) (defBody sMade) (defScope sMade) .none kVL dcL pmL anL cdL ctL), slL⟩) (cL : PySem.W.codeIn K cdL "_law_made" = true) (kL : PySem.W.keepIn K (.ref fL) = true)
    (aZ : PySem.W.nsIn K mainGlobals "law" = some (some (.ref fZ))) (lZ : K.lookup fZ = some ⟨ocZ, odZ, .func (PySem.W.fnOf "law" "law" (defArgs sLaw) (defBody sLaw) (defScope sLaw) .none kVZ dcZ pmZ anZ cdZ ctZ), slZ⟩) (cZ : PySem.W.codeIn K cdZ "law" = true) (kZ : PySem.W.keepIn K (.ref fZ) = true)
    (z_len : PySem.W.nsIn K mainGlobals "len" = some none) (z_all : PySem.W.nsIn K mainGlobals "all" = some none) (z_sum : PySem.W.nsIn K mainGlobals "sum" = some none) (z_range : PySem.W.nsIn K mainGlobals "range" = some none) (z_isinstance : PySem.W.nsIn K mainGlobals "isinstance" = some none) (z_int : PySem.W.nsIn K mainGlobals "int" = some none) (z_bool : PySem.W.nsIn K mainGlobals "bool" = some none) (z_tuple : PySem.W.nsIn K mainGlobals "tuple" = some none) (z_list : PySem.W.nsIn K mainGlobals "list" = some none) (z_abs : PySem.W.nsIn K mainGlobals "abs" = some none) (z_min : PySem.W.nsIn K mainGlobals "min" = some none)
    (aE : PySem.W.nsIn K mainGlobals "NotFound" = some (some (.ref E))) (aB : PySem.W.nsIn K mainGlobals "EbbError" = some (some (.ref B)))
    (xE : PySem.W.excIn K E [.type "ValueError", .type "Exception", .type "BaseException", .type "object"] "ValueError.__new__" = true) (kE : PySem.W.keepIn K (.ref E) = true) (bE : PySem.W.subIn K (.ref E) (.type "BaseException") = some true) (tE : PySem.W.typeIn K (.ref E) = some (.type "type"))
    (iE : PySem.W.isClsIn K E = true) (sE : PySem.W.subIn K (.ref E) (.ref E) = some true)
    (q1 : PySem.W.findIn K (.ref E) "__getattribute__" = some (some (.builtin "BaseException.__getattribute__"))) (q2 : PySem.W.findIn K (.ref E) "__getattr__" = some none) (q3 : PySem.W.hasDictIn K E = true) (q4 : PySem.W.findIn K (.ref E) "__class__" = some (some (.builtin "object.__class__")))
    (q5 : PySem.W.specialIn K (.builtin "object.__class__") "__get__" = some (some (.builtin "getset_descriptor.__get__"))) (q6 : PySem.W.takesIn K (.builtin "object.__class__") = some true) (q7 : PySem.W.mroIn K E (.type "object") = some true)
    (q8 : PySem.W.isClsIn K B = true) (q9 : PySem.W.typeIn K (.ref B) = some (.type "type")) (qa : PySem.W.subIn K (.ref E) (.ref B) = some true) :
    ∃ fd : FuncData, (∀ (s : Shared) (u : Value), BindsTo s fd ⟨[u], []⟩ [("_law_script", u)]) ∧ ∀ base : Heap, K.In base → base.Ns mainGlobals mg → FnOk P w K mg base CX0 5 fa fd ["_law_script"] (spLaw K) := by
  have e := hfa.symm.trans (PySem.W.mg_of X G aZ)
  cases e
  have T : Txt mg := ⟨PySem.W.mg_none_of X G z_len, PySem.W.mg_none_of X G z_all, PySem.W.mg_none_of X G z_sum, PySem.W.mg_none_of X G z_range, PySem.W.mg_none_of X G z_isinstance, PySem.W.mg_none_of X G z_int, PySem.W.mg_none_of X G z_bool, PySem.W.mg_none_of X G z_tuple, PySem.W.mg_none_of X G z_list, PySem.W.mg_none_of X G z_abs, PySem.W.mg_none_of X G z_min⟩
  have TE : ErrTxt K mg E := ⟨PySem.W.mg_of X G aE, xE, kE, bE, tE, exm_self bE iE tE sE⟩
  have TB : BaseTxt K mg E B := ⟨PySem.W.mg_of X G aB, ⟨q1, q2, bE, q3, q4, q5, q6, q7⟩, kit_own q8 q9 qa⟩
  have FF := fun_mk (st := sFull) lF cF kF
  have FA := fun_mk (st := sAcc) lA cA kA
  have FM := fun_mk (st := sMake) lM cM kM
  have FI := fun_mk (st := sIsInt) lI cI kI
  have FC := fun_mk (st := sCell) lC cC kC
  have FD := fun_mk (st := sDraw) lD cD kD
  have FS := fun_mk (st := sSteps) lS cS kS
  have FP := fun_mk (st := sPlay) lP cP kP
  have FJ := fun_mk (st := sPaper) lJ cJ kJ
  have FT := fun_mk (st := sTimes) lT cT kT
  have FL := fun_mk (st := sMade) lL cL kL
  have FZ := fun_mk (st := sLaw) lZ cZ kZ
  have bF := FF.binds (ps := ["moment"]) fun _ _ _ _ _ _ us hl => match us, hl with | [_], _ => rfl
  have bA := FA.binds (ps := ["lag", "patience", "moments", "paper"]) fun _ _ _ _ _ _ us hl => match us, hl with | [_, _, _, _], _ => rfl
  have bM := FM.binds (ps := ["lag", "patience", "moments", "u"]) fun _ _ _ _ _ _ us hl => match us, hl with | [_, _, _, _], _ => rfl
  have bI := FI.binds (ps := ["_law_actual"]) fun _ _ _ _ _ _ us hl => match us, hl with | [_], _ => rfl
  have bC := FC.binds (ps := ["_law_script", "_law_k"]) fun _ _ _ _ _ _ us hl => match us, hl with | [_, _], _ => rfl
  have bD := FD.binds (ps := ["_law_cell_here", "_law_k", "_law_many"]) fun _ _ _ _ _ _ us hl => match us, hl with | [_, _, _], _ => rfl
  have bS := FS.binds (ps := ["_law_rows", "_law_lag", "_law_patience", "_law_now", "_law_came", "_law_places"]) fun _ _ _ _ _ _ us hl => match us, hl with | [_, _, _, _, _, _], _ => rfl
  have bP := FP.binds (ps := ["_law_lag", "_law_patience", "_law_cells", "_law_most"]) fun _ _ _ _ _ _ us hl => match us, hl with | [_, _, _, _], _ => rfl
  have bJ := FJ.binds (ps := ["_law_lag", "_law_patience", "_law_moments", "_law_first", "_law_last"]) fun _ _ _ _ _ _ us hl => match us, hl with | [_, _, _, _, _], _ => rfl
  have bT := FT.binds (ps := ["_law_cell_here"]) fun _ _ _ _ _ _ us hl => match us, hl with | [_], _ => rfl
  have bL := FL.binds (ps := ["_law_lag", "_law_patience", "_law_moments", "_law_u"]) fun _ _ _ _ _ _ us hl => match us, hl with | [_, _, _, _], _ => rfl
  exact ⟨PySem.W.fnOf "law" "law" (defArgs sLaw) (defBody sLaw) (defScope sLaw) .none kVZ dcZ pmZ anZ cdZ ctZ, fun s u => .of_eq rfl, fun base _ _ => ok_law FZ T TE TB ⟨FF, bF, PySem.W.mg_of X G aF⟩ ⟨FA, bA, PySem.W.mg_of X G aA⟩ ⟨FM, bM, PySem.W.mg_of X G aM⟩ ⟨FI, bI, PySem.W.mg_of X G aI⟩ ⟨FC, bC, PySem.W.mg_of X G aC⟩ ⟨FD, bD, PySem.W.mg_of X G aD⟩ ⟨FS, bS, PySem.W.mg_of X G aS⟩ ⟨FP, bP, PySem.W.mg_of X G aP⟩ ⟨FJ, bJ, PySem.W.mg_of X G aJ⟩ ⟨FT, bT, PySem.W.mg_of X G aT⟩ ⟨FL, bL, PySem.W.mg_of X G aL⟩⟩
/-- the law row's walk -/
theorem walk_law {l : PySem.W.OpenLaw} {q : Program} {loose : List Str} {XP : (Str → Option Value) → Heap → Prop} {YP : World → Heap → Prop} {d : DefRec} {K : Params → PySem.W.Frag} (hn : l.most = some 63) (hdf : d.params.defaults = [])
    (hY : ∀ (w : World) (h : Heap), YP w h → (K w.params).In h)
    (F : ∀ (w : World) (mg : Str → Option Value) (fa : Addr) (h : Heap), (K w.params).In h → h.Ns mainGlobals mg → mg d.name = some (.ref fa) →
      ∃ fd : FuncData, (∀ (s : Shared) (u : Value), BindsTo s fd ⟨[u], []⟩ [("_law_script", u)]) ∧ ∀ base : Heap, (K w.params).In base → base.Ns mainGlobals mg → FnOk l.prog w (K w.params) mg base CX0 5 fa fd ["_law_script"] (spLaw (K w.params))) :
    PySem.W.WalkO q loose XP YP l.row.toRowW d [] (fun f vs => PySem.call f vs) :=
  L2.walk_of (n := 63) (k := 5) (x := "_law_script") (CX := fun _ => CX0) (sp := fun w => spLaw (K w.params)) hn (by decide) hdf ⟨rfl, by decide, by decide⟩ hY F (fun _ _ a ns hl _ hS => ⟨a, ns, rfl, hS, hl, fun _ => rfl⟩) fun _ _ _ _ _ z => z
end Ebb
open PySem PySem.W PyProof.Rows
set_option maxRecDepth 100000 in
set_option maxHeartbeats 0 in
theorem PySem.Challenge.cw_ebbkeep_k06_whole_drops_have_papers_holds : PySem.Challenge.rw_ebbkeep_k06_whole_drops_have_papers.Holds := by
  w_on; o_law; k_head; (case hw => w_witness2)
  k_fill
  refine Ebb.walk_law (l := PySem.Challenge.rw_ebbkeep_k06_whole_drops_have_papers) rfl rfl (fun w h Y => PySem.W.kIn_of Y) ?F
  case F =>
    intro w mg fa h KX G hmg
    refine' Ebb.all_mk KX G hmg ?aF ?lF ?cF ?kF ?aA ?lA ?cA ?kA ?aM ?lM ?cM ?kM ?aI ?lI ?cI ?kI ?aC ?lC ?cC ?kC ?aD ?lD ?cD ?kD ?aS ?lS ?cS ?kS ?aP ?lP ?cP ?kP ?aJ ?lJ ?cJ ?kJ ?aT ?lT ?cT ?kT ?aL ?lL ?cL ?kL ?aZ ?lZ ?cZ ?kZ ?z_len ?z_all ?z_sum ?z_range ?z_isinstance ?z_int ?z_bool ?z_tuple ?z_list ?z_abs ?z_min ?aE ?aB ?xE ?kE ?bE ?tE ?iE ?sE ?q1 ?q2 ?q3 ?q4 ?q5 ?q6 ?q7 ?q8 ?q9 ?qa
    (case aF => k_is)
    (case lF => k_is)
    (case cF => k_is)
    (case kF => k_is)
    (case aA => k_is)
    (case lA => k_is)
    (case cA => k_is)
    (case kA => k_is)
    (case aM => k_is)
    (case lM => k_is)
    (case cM => k_is)
    (case kM => k_is)
    (case aI => k_is)
    (case lI => k_is)
    (case cI => k_is)
    (case kI => k_is)
    (case aC => k_is)
    (case lC => k_is)
    (case cC => k_is)
    (case kC => k_is)
    (case aD => k_is)
    (case lD => k_is)
    (case cD => k_is)
    (case kD => k_is)
    (case aS => k_is)
    (case lS => k_is)
    (case cS => k_is)
    (case kS => k_is)
    (case aP => k_is)
    (case lP => k_is)
    (case cP => k_is)
    (case kP => k_is)
    (case aJ => k_is)
    (case lJ => k_is)
    (case cJ => k_is)
    (case kJ => k_is)
    (case aT => k_is)
    (case lT => k_is)
    (case cT => k_is)
    (case kT => k_is)
    (case aL => k_is)
    (case lL => k_is)
    (case cL => k_is)
    (case kL => k_is)
    (case aZ => k_is)
    (case lZ => k_is)
    (case cZ => k_is)
    (case kZ => k_is)
    (case z_len => k_is)
    (case z_all => k_is)
    (case z_sum => k_is)
    (case z_range => k_is)
    (case z_isinstance => k_is)
    (case z_int => k_is)
    (case z_bool => k_is)
    (case z_tuple => k_is)
    (case z_list => k_is)
    (case z_abs => k_is)
    (case z_min => k_is)
    (case aE => k_is)
    (case aB => k_is)
    (case xE => k_exc)
    (case kE => k_is)
    (case bE => k_is)
    (case tE => k_is)
    (case iE => k_is)
    (case sE => first | rfl | k_is)
    (case q1 => k_is)
    (case q2 => k_is)
    (case q3 => k_is)
    (case q4 => k_is)
    (case q5 => k_is)
    (case q6 => k_is)
    (case q7 => k_is)
    (case q8 => k_is)
    (case q9 => k_is)
    (case qa => k_is)
