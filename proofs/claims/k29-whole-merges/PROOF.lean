import PyProof.Rows.All
import Wide.All
import OpenK.AllK
import Wide.FinOn
import HandS.ForMost
import HandS.Walk
import HandS.Zip
import HandS.DictComp
import HandS.IsInst
import HandS.TupAny
import HandS.Conv
import HandS.Style
import HandS.Deep
import KE.KOpsOwn
import PySem.Challenge.RW_whatcounts_k29_whole_merges
import KE.GoesZip
import KE.GoesMore
import HandS.Star
import KE.KDictList
import KE.KDictKeyed
import KE.KDictLaws
import KE.KeyNested
import KE.KTupTabMore
import HandS.TupLen
import HandS.TupSets
import PyProof.Rows.RuleB_pow
import HandS.Codes
import HandS.HeadEnd
import PyProof.ReprRoads
import PyProof.ReprLen
import PyProof.CallFns
import KE.KStateDown
import HandS.Head0
import HandS.Head1
import HandS.Head2
import HandS.HeadHook1
set_option Elab.async false
set_option linter.all false
set_option maxRecDepth 100000
set_option maxHeartbeats 4000000
/-! Readers as plain data: numbering by first texts, classes by what is answered on and on, the least reader is one. -/
namespace K29

theorem snoc_ind {α : Type} {P : List α → Prop} (h0 : P []) (hs : ∀ l a, P l → P (l ++ [a])) (l : List α) : P l := by
  have h : ∀ r : List α, P r.reverse := by
    intro r
    induction r with
    | nil => exact h0
    | cons a r ih => rw [List.reverse_cons]; exact hs _ _ ih
  have := h l.reverse
  rwa [List.reverse_reverse] at this

structure Aut where
  ls : List Nat
  rows : List (List Nat)
  yes : List Nat

namespace Aut
def row (A : Aut) (c : Nat) : List Nat := ((A.ls.zip A.rows).lookup c).getD []
def mv (A : Aut) (c q : Nat) : Nat := (A.row c).getD q 0
def n (A : Aut) : Nat := (A.rows.headD []).length
def run (A : Aut) (q : Nat) (w : List Nat) : Nat := w.foldl (fun q c => A.mv c q) q
def acc (A : Aut) (q : Nat) : Bool := decide (q ∈ A.yes)

structure Ok (A : Aut) : Prop where
  l1 : 1 ≤ A.ls.length
  l3 : A.ls.length ≤ 3
  asc : A.ls.Pairwise (· < ·)
  cod : ∀ c ∈ A.ls, 97 ≤ c ∧ c ≤ 122
  rl : A.rows.length = A.ls.length
  rn : ∀ r ∈ A.rows, r.length = A.n
  rb : ∀ r ∈ A.rows, ∀ x ∈ r, x < A.n
  n1 : 1 ≤ A.n
  n60 : A.n ≤ 60
  ya : A.yes.Pairwise (· < ·)
  yb : ∀ y ∈ A.yes, y < A.n
end Aut

theorem lookup_zip {β : Type} : ∀ {ls : List Nat} {rs : List β} {c : Nat}, rs.length = ls.length → c ∈ ls → ∃ r, (ls.zip rs).lookup c = some r ∧ r ∈ rs
  | [], _, _, _, h => by simp at h
  | _ :: _, [], _, hl, _ => by simp at hl
  | a :: ls, r :: rs, c, hl, h => by
    rw [List.zip_cons_cons, List.lookup_cons]
    by_cases e : c = a
    · subst e; simp
    · rw [show (c == a) = false from beq_eq_false_iff_ne.mpr e]
      have hm : c ∈ ls := by
        rcases List.mem_cons.mp h with h | h
        · exact absurd h e
        · exact h
      obtain ⟨x, h1, h2⟩ := lookup_zip (rs := rs) (ls := ls) (by simpa using hl) hm
      exact ⟨x, h1, List.mem_cons_of_mem _ h2⟩

section
variable {A : Aut}
theorem row_mem (ok : A.Ok) {c : Nat} (h : c ∈ A.ls) : A.row c ∈ A.rows := by
  obtain ⟨r, h1, h2⟩ := lookup_zip ok.rl h
  unfold Aut.row
  rw [h1]
  exact h2
theorem row_len (ok : A.Ok) {c : Nat} (h : c ∈ A.ls) : (A.row c).length = A.n := ok.rn _ (row_mem ok h)
theorem mv_lt (ok : A.Ok) {c q : Nat} (h : c ∈ A.ls) (hq : q < A.n) : A.mv c q < A.n := by
  unfold Aut.mv
  have hl : q < (A.row c).length := by rw [row_len ok h]; exact hq
  rw [List.getD_eq_getElem?_getD, List.getElem?_eq_getElem hl]
  exact ok.rb _ (row_mem ok h) _ (List.getElem_mem hl)
theorem row_get (ok : A.Ok) {c q : Nat} (h : c ∈ A.ls) (hq : q < A.n) : (A.row c)[q]? = some (A.mv c q) := by
  unfold Aut.mv
  have hl : q < (A.row c).length := by rw [row_len ok h]; exact hq
  rw [List.getD_eq_getElem?_getD, List.getElem?_eq_getElem hl]
  rfl
/-- rows are told by the letters -/
theorem rows_eq (ok : A.Ok) : A.rows = A.ls.map A.row := by
  have key : ∀ (ls : List Nat) (rs : List (List Nat)), rs.length = ls.length → ls.Pairwise (· < ·) → rs = ls.map fun c => ((ls.zip rs).lookup c).getD [] := by
    intro ls
    induction ls with
    | nil => intro rs h _; simpa using h
    | cons a ls ih =>
      intro rs h hp
      cases rs with
      | nil => simp at h
      | cons r rs =>
        rw [List.pairwise_cons] at hp
        have h2 := ih rs (by simpa using h) hp.2
        rw [List.map_cons]
        congr 1
        · simp
        · conv => lhs; rw [h2]
          refine List.map_congr_left fun c hc => ?_
          have hne : (c == a) = false := beq_eq_false_iff_ne.mpr (by have := hp.1 c hc; omega)
          rw [List.zip_cons_cons, List.lookup_cons, hne]
  exact key _ _ ok.rl ok.asc
theorem run_nil (q : Nat) : A.run q [] = q := rfl
theorem run_cons (q c : Nat) (w : List Nat) : A.run q (c :: w) = A.run (A.mv c q) w := rfl
theorem run_append (q : Nat) (u v : List Nat) : A.run q (u ++ v) = A.run (A.run q u) v := by
  unfold Aut.run; rw [List.foldl_append]
theorem run_snoc (q c : Nat) (u : List Nat) : A.run q (u ++ [c]) = A.mv c (A.run q u) := by rw [run_append]; rfl
end

/-- texts of the letters; their order by a number -/
def Over (ls w : List Nat) : Prop := ∀ c ∈ w, c ∈ ls
theorem Over.nil {ls : List Nat} : Over ls [] := fun _ h => by simp at h
theorem Over.snoc {ls w : List Nat} {c : Nat} (h : Over ls w) (hc : c ∈ ls) : Over ls (w ++ [c]) := fun x hx => by
  rcases List.mem_append.mp hx with hx | hx
  · exact h x hx
  · simp at hx; subst hx; exact hc
theorem Over.init {ls w : List Nat} {c : Nat} (h : Over ls (w ++ [c])) : Over ls w := fun x hx => h x (List.mem_append_left _ hx)
theorem Over.last {ls w : List Nat} {c : Nat} (h : Over ls (w ++ [c])) : c ∈ ls := h c (by simp)
theorem Over.tail {ls w : List Nat} {c : Nat} (h : Over ls (c :: w)) : Over ls w := fun x hx => h x (List.mem_cons_of_mem _ hx)
theorem Over.head {ls w : List Nat} {c : Nat} (h : Over ls (c :: w)) : c ∈ ls := h c List.mem_cons_self
theorem Over.cons {ls w : List Nat} {c : Nat} (hc : c ∈ ls) (h : Over ls w) : Over ls (c :: w) := fun x hx => by
  rcases List.mem_cons.mp hx with rfl | hx
  · exact hc
  · exact h x hx
theorem Over.append {ls u v : List Nat} (h : Over ls u) (h2 : Over ls v) : Over ls (u ++ v) := fun x hx => by
  rcases List.mem_append.mp hx with hx | hx
  · exact h x hx
  · exact h2 x hx
theorem run_lt {A : Aut} (ok : A.Ok) {w : List Nat} : ∀ {q : Nat}, Over A.ls w → q < A.n → A.run q w < A.n := by
  induction w with
  | nil => intro q _ hq; exact hq
  | cons c w ih => intro q h hq; rw [run_cons]; exact ih h.tail (mv_lt ok h.head hq)

def num (w : List Nat) : Nat := w.foldl (fun v c => v * 256 + c) 1
theorem num_nil : num [] = 1 := rfl
theorem num_snoc (w : List Nat) (c : Nat) : num (w ++ [c]) = num w * 256 + c := by unfold num; rw [List.foldl_append]; rfl
theorem num_pos (w : List Nat) : 1 ≤ num w := by
  induction w using snoc_ind with
  | h0 => exact Nat.le_refl _
  | hs l a ih => rw [num_snoc]; omega
theorem num_inj {u v : List Nat} (hu : ∀ c ∈ u, c < 256) (hv : ∀ c ∈ v, c < 256) (h : num u = num v) : u = v := by
  induction u using snoc_ind generalizing v with
  | h0 =>
    induction v using snoc_ind with
    | h0 => rfl
    | hs l a _ => rw [num_snoc, num_nil] at h; have := num_pos l; omega
  | hs l a ih =>
    induction v using snoc_ind with
    | h0 => rw [num_snoc, num_nil] at h; have := num_pos l; omega
    | hs l' a' _ =>
      rw [num_snoc, num_snoc] at h
      have h1 : a < 256 := hu a (by simp)
      have h2 : a' < 256 := hv a' (by simp)
      have e1 : num l = num l' := by omega
      have e2 : a = a' := by omega
      rw [ih (fun c hc => hu c (List.mem_append_left _ hc)) (fun c hc => hv c (List.mem_append_left _ hc)) e1, e2]
theorem cod_lt {A : Aut} (ok : A.Ok) {c : Nat} (h : c ∈ A.ls) : c < 256 := by have := ok.cod c h; omega
theorem over_inj {A : Aut} (ok : A.Ok) {u v : List Nat} (hu : Over A.ls u) (hv : Over A.ls v) (h : num u = num v) : u = v :=
  num_inj (fun c hc => cod_lt ok (hu c hc)) (fun c hc => cod_lt ok (hv c hc)) h

/-! ### the states by the order of first texts -/
abbrev Lst := List (Nat × List Nat)
namespace Aut
def push (A : Aut) (q : Nat) (w : List Nat) (L : Lst) (c : Nat) : Lst := if A.mv c q ∈ L.map (·.1) then L else L ++ [(A.mv c q, w ++ [c])]
def proc (A : Aut) (L : Lst) (i : Nat) : Lst := match L[i]? with
  | none => L
  | some p => A.ls.foldl (A.push p.1 p.2) L
def bfsAt (A : Aut) (s : Nat) : Nat → Lst
  | 0 => [(s, [])]
  | k + 1 => A.proc (A.bfsAt s k) k
def bfs (A : Aut) (s : Nat) : Lst := A.bfsAt s A.n
end Aut

/-- what holds of a list of states with texts, all the while -/
structure BInv (A : Aut) (s : Nat) (L : Lst) : Prop where
  nd : (L.map (·.1)).Nodup
  lt : ∀ p ∈ L, p.1 < A.n
  run : ∀ p ∈ L, A.run s p.2 = p.1
  over : ∀ p ∈ L, Over A.ls p.2
  asc : L.Pairwise (fun p q => num p.2 < num q.2)

theorem push_fold {A : Aut} (ok : A.Ok) {s : Nat} {q : Nat} {w : List Nat} : ∀ {cs : List Nat} {L : Lst}, BInv A s L → (q, w) ∈ L → cs.Pairwise (· < ·) → (∀ c ∈ cs, c ∈ A.ls) →
    (∀ r ∈ L, ∀ c ∈ cs, num r.2 < num w * 256 + c) →
    ∃ M, cs.foldl (A.push q w) L = L ++ M ∧ BInv A s (L ++ M) ∧ (∀ r ∈ M, ∃ c ∈ cs, r.2 = w ++ [c]) ∧ ∀ c ∈ cs, ∃ w', (A.mv c q, w') ∈ L ++ M ∧ num w' ≤ num w * 256 + c := by
  intro cs
  induction cs with
  | nil => intro L I _ _ _ _; exact ⟨[], by simp, by simpa using I, by simp, by simp⟩
  | cons c cs ih =>
    intro L I hm hp hs hf
    rw [List.pairwise_cons] at hp
    have hc : c ∈ A.ls := hs c List.mem_cons_self
    rw [List.foldl_cons]
    by_cases hin : A.mv c q ∈ L.map (·.1)
    · have e : A.push q w L c = L := by unfold Aut.push; rw [if_pos hin]
      rw [e]
      obtain ⟨M, e1, I1, h1, h2⟩ := ih I hm hp.2 (fun x hx => hs x (List.mem_cons_of_mem _ hx)) fun r hr x hx => hf r hr x (List.mem_cons_of_mem _ hx)
      refine ⟨M, e1, I1, fun r hr => ?_, fun x hx => ?_⟩
      · obtain ⟨x, hx, e⟩ := h1 r hr
        exact ⟨x, List.mem_cons_of_mem _ hx, e⟩
      · rcases List.mem_cons.mp hx with rfl | hx
        · obtain ⟨⟨q', w'⟩, hr, e⟩ := List.mem_map.mp hin
          simp only at e
          subst e
          exact ⟨w', List.mem_append_left _ hr, Nat.le_of_lt (hf _ hr x List.mem_cons_self)⟩
        · exact h2 x hx
    · have e : A.push q w L c = L ++ [(A.mv c q, w ++ [c])] := by unfold Aut.push; rw [if_neg hin]
      rw [e]
      have hq : q < A.n := I.lt _ hm
      have hw : Over A.ls w := I.over _ hm
      have hr0 : A.run s w = q := I.run _ hm
      have I' : BInv A s (L ++ [(A.mv c q, w ++ [c])]) := by
        refine ⟨?_, ?_, ?_, ?_, ?_⟩
        · rw [List.map_append, List.nodup_append]
          refine ⟨I.nd, by simp, ?_⟩
          intro a ha b hb
          simp at hb
          subst hb
          intro e
          subst e
          exact hin ha
        · intro p hp'
          rcases List.mem_append.mp hp' with h | h
          · exact I.lt p h
          · simp at h; subst h; exact mv_lt ok hc hq
        · intro p hp'
          rcases List.mem_append.mp hp' with h | h
          · exact I.run p h
          · simp at h; subst h; rw [run_snoc, hr0]
        · intro p hp'
          rcases List.mem_append.mp hp' with h | h
          · exact I.over p h
          · simp at h; subst h; exact hw.snoc hc
        · rw [List.pairwise_append]
          refine ⟨I.asc, by simp, ?_⟩
          intro a ha b hb
          simp at hb
          subst hb
          rw [num_snoc]
          exact hf a ha c List.mem_cons_self
      obtain ⟨M, e1, I1, h1, h2⟩ := ih I' (List.mem_append_left _ hm) hp.2 (fun x hx => hs x (List.mem_cons_of_mem _ hx)) (by
        intro r hr x hx
        rcases List.mem_append.mp hr with h | h
        · exact hf r h x (List.mem_cons_of_mem _ hx)
        · simp at h; subst h; rw [num_snoc]
          have := hp.1 x hx
          omega)
      refine ⟨(A.mv c q, w ++ [c]) :: M, ?_, ?_, fun r hr => ?_, fun x hx => ?_⟩
      · rw [e1]; simp
      · simpa using I1
      · rcases List.mem_cons.mp hr with rfl | hr
        · exact ⟨c, List.mem_cons_self, rfl⟩
        · obtain ⟨x, hx, e⟩ := h1 r hr
          exact ⟨x, List.mem_cons_of_mem _ hx, e⟩
      · rcases List.mem_cons.mp hx with rfl | hx
        · exact ⟨w ++ [x], by simp, by rw [num_snoc]; exact Nat.le_refl _⟩
        · obtain ⟨w', hw', hle⟩ := h2 x hx
          exact ⟨w', by simpa using hw', hle⟩

structure BAt (A : Aut) (s k : Nat) (L : Lst) : Prop extends BInv A s L where
  start : L[0]? = some (s, [])
  closed : ∀ i p, i < k → L[i]? = some p → ∀ c ∈ A.ls, ∃ w', (A.mv c p.1, w') ∈ L ∧ num w' ≤ num p.2 * 256 + c
  front : ∀ p, L[k]? = some p → ∀ q ∈ L, ∀ c ∈ A.ls, num q.2 < num p.2 * 256 + c

theorem bfsAt_ok {A : Aut} (ok : A.Ok) {s : Nat} (hs : s < A.n) : ∀ k, BAt A s k (A.bfsAt s k)
  | 0 => by
    refine ⟨⟨by simp [Aut.bfsAt], ?_, ?_, ?_, by simp [Aut.bfsAt]⟩, rfl, fun i p h => by omega, ?_⟩
    · intro p hp; simp [Aut.bfsAt] at hp; subst hp; exact hs
    · intro p hp; simp [Aut.bfsAt] at hp; subst hp; rfl
    · intro p hp; simp [Aut.bfsAt] at hp; subst hp; exact Over.nil
    · intro p hp q hq c hc
      simp [Aut.bfsAt] at hp hq
      subst hp; subst hq
      have := ok.cod c hc
      rw [num_nil]; omega
  | k + 1 => by
    have I := bfsAt_ok ok hs k
    show BAt A s (k + 1) (A.proc (A.bfsAt s k) k)
    unfold Aut.proc
    cases e : (A.bfsAt s k)[k]? with
    | none =>
      refine ⟨I.toBInv, I.start, fun i p hi hp => ?_, fun p hp => ?_⟩
      · by_cases h : i < k
        · exact I.closed i p h hp
        · have : i = k := by omega
          subst this
          rw [e] at hp; cases hp
      · have h1 := List.getElem?_eq_none_iff.mp e
        have h2 : (A.bfsAt s k)[k + 1]? = none := List.getElem?_eq_none_iff.mpr (by omega)
        rw [h2] at hp; cases hp
    | some p =>
      obtain ⟨q, w⟩ := p
      have hm : (q, w) ∈ A.bfsAt s k := List.mem_of_getElem? e
      obtain ⟨M, e1, I1, h1, h2⟩ := push_fold ok I.toBInv hm ok.asc (fun c hc => hc) fun r hr c hc => I.front _ e r hr c hc
      show BAt A s (k + 1) (A.ls.foldl (A.push q w) (A.bfsAt s k))
      rw [e1]
      have hk : k < (A.bfsAt s k).length := (List.getElem?_eq_some_iff.mp e).1
      refine ⟨I1, ?_, ?_, ?_⟩
      · rw [List.getElem?_append_left (by omega)]; exact I.start
      · intro i p hi hp
        rw [List.getElem?_append_left (by omega)] at hp
        by_cases h : i < k
        · intro c hc
          obtain ⟨w', h3, h4⟩ := I.closed i p h hp c hc
          exact ⟨w', List.mem_append_left _ h3, h4⟩
        · have : i = k := by omega
          subst this
          rw [e] at hp
          cases hp
          exact h2
      · intro p hp r hr c hc
        -- the texts ascend: the one at k + 1 is behind the one at k
        have hlt : num w < num p.2 := by
          have hpw := I1.asc
          rw [List.pairwise_iff_getElem] at hpw
          obtain ⟨h3, h4⟩ := List.getElem?_eq_some_iff.mp hp
          have h5 : k < (A.bfsAt s k ++ M).length := by omega
          have h6 := hpw k (k + 1) h5 h3 (by omega)
          rw [h4] at h6
          have h7 : (A.bfsAt s k ++ M)[k] = (q, w) := by
            have h8 : (A.bfsAt s k ++ M)[k]? = some (q, w) := by rw [List.getElem?_append_left hk]; exact e
            exact (List.getElem?_eq_some_iff.mp h8).2
          rw [h7] at h6
          exact h6
        have hc' := ok.cod c hc
        rcases List.mem_append.mp hr with h | h
        · have := I.front _ e r h c hc
          simp only at this
          omega
        · obtain ⟨x, hx, e2⟩ := h1 r h
          have hx' := ok.cod x hx
          rw [e2, num_snoc]
          omega

theorem bfsAt_len {A : Aut} (ok : A.Ok) {s : Nat} (hs : s < A.n) (k : Nat) : (A.bfsAt s k).length ≤ A.n := by
  have I := bfsAt_ok ok hs k
  have h := List.Nodup.length_le_of_subset (l₂ := List.range A.n) I.nd (by
    intro x hx
    obtain ⟨p, hp, rfl⟩ := List.mem_map.mp hx
    exact List.mem_range.mpr (I.lt p hp))
  simpa using h
theorem bfsAt_stop {A : Aut} {s k : Nat} (h : (A.bfsAt s k).length ≤ k) : ∀ j, A.bfsAt s (k + j) = A.bfsAt s k
  | 0 => rfl
  | j + 1 => by
    show A.proc (A.bfsAt s (k + j)) (k + j) = A.bfsAt s k
    rw [bfsAt_stop h j]
    unfold Aut.proc
    rw [List.getElem?_eq_none_iff.mpr (by omega)]
theorem bfsAt_done {A : Aut} (ok : A.Ok) {s k : Nat} (hs : s < A.n) (h : (A.bfsAt s k).length ≤ k) : A.bfsAt s k = A.bfs s := by
  unfold Aut.bfs
  by_cases hk : k ≤ A.n
  · have := bfsAt_stop h (A.n - k)
    rw [show k + (A.n - k) = A.n by omega] at this
    exact this.symm
  · have := bfsAt_stop (A := A) (s := s) (k := A.n) (bfsAt_len ok hs _) (k - A.n)
    rw [show A.n + (k - A.n) = k by omega] at this
    exact this

/-- the whole list: each reached state with its least text -/
structure BAll (A : Aut) (s : Nat) (L : Lst) : Prop extends BInv A s L where
  start : L[0]? = some (s, [])
  least : ∀ w, Over A.ls w → ∃ w', (A.run s w, w') ∈ L ∧ num w' ≤ num w
theorem bfs_all {A : Aut} (ok : A.Ok) {s : Nat} (hs : s < A.n) : BAll A s (A.bfs s) := by
  have I := bfsAt_ok ok hs A.n
  refine ⟨I.toBInv, I.start, fun w => ?_⟩
  induction w using snoc_ind with
  | h0 => intro _; exact ⟨[], List.mem_of_getElem? I.start, Nat.le_refl _⟩
  | hs w c ih =>
    intro ho
    obtain ⟨w', h1, h2⟩ := ih ho.init
    obtain ⟨i, hi⟩ := List.getElem?_of_mem h1
    have hlt : i < A.n := by
      have h3 := (List.getElem?_eq_some_iff.mp hi).1
      have h4 := bfsAt_len ok hs A.n
      unfold Aut.bfs at h3
      omega
    obtain ⟨w2, h3, h4⟩ := I.closed i _ hlt hi c ho.last
    refine ⟨w2, ?_, ?_⟩
    · rw [run_snoc]; exact h3
    · rw [num_snoc]; simp only at h4; omega
end K29
namespace K29

/-! ### the least reader is one -/
def Alike (A : Aut) (i j : Nat) : Prop := ∀ w, Over A.ls w → A.acc (A.run i w) = A.acc (A.run j w)

structure IsLeast (ls : List Nat) (ac : List Nat → Bool) (B : Aut) (T : List (List Nat)) : Prop where
  ok : B.Ok
  ls_ : B.ls = ls
  len : T.length = B.n
  run : ∀ (i : Nat) w, T[i]? = some w → B.run 0 w = i ∧ Over ls w
  least : ∀ w, Over ls w → ∃ t, T[B.run 0 w]? = some t ∧ num t ≤ num w
  asc : T.Pairwise (fun u v => num u < num v)
  ans : ∀ w, Over ls w → B.acc (B.run 0 w) = ac w
  red : ∀ i j, i < B.n → j < B.n → Alike B i j → i = j

theorem asc_ext {α : Type} (k : α → Nat) : ∀ {T T' : List α}, T.Pairwise (fun u v => k u < k v) → T'.Pairwise (fun u v => k u < k v) → (∀ x, x ∈ T ↔ x ∈ T') → T = T'
  | [], [], _, _, _ => rfl
  | [], b :: T', _, _, h => by have := (h b).mpr List.mem_cons_self; simp at this
  | a :: T, [], _, _, h => by have := (h a).mp List.mem_cons_self; simp at this
  | a :: T, b :: T', p, p', h => by
    rw [List.pairwise_cons] at p p'
    have e : a = b := by
      rcases List.mem_cons.mp ((h a).mp List.mem_cons_self) with e | h1
      · exact e
      · rcases List.mem_cons.mp ((h b).mpr List.mem_cons_self) with e | h2
        · exact e.symm
        · have := p'.1 a h1
          have := p.1 b h2
          omega
    subst e
    congr 1
    refine asc_ext k p.2 p'.2 fun x => ⟨fun hx => ?_, fun hx => ?_⟩
    · rcases List.mem_cons.mp ((h x).mp (List.mem_cons_of_mem _ hx)) with e | h1
      · subst e; have := p.1 x hx; omega
      · exact h1
    · rcases List.mem_cons.mp ((h x).mpr (List.mem_cons_of_mem _ hx)) with e | h1
      · subst e; have := p'.1 x hx; omega
      · exact h1

section
variable {ls : List Nat} {ac : List Nat → Bool} {B B' : Aut} {T T' : List (List Nat)}
theorem IsLeast.nerode (h : IsLeast ls ac B T) {u v : List Nat} (hu : Over ls u) (hv : Over ls v) : B.run 0 u = B.run 0 v ↔ ∀ w, Over ls w → ac (u ++ w) = ac (v ++ w) := by
  constructor
  · intro e w hw
    rw [← h.ans _ (hu.append hw), ← h.ans _ (hv.append hw), run_append, run_append, e]
  · intro e
    have n1 : 0 < B.n := h.ok.n1
    refine h.red _ _ (run_lt h.ok (by rw [h.ls_]; exact hu) n1) (run_lt h.ok (by rw [h.ls_]; exact hv) n1) fun w hw => ?_
    rw [h.ls_] at hw
    rw [← run_append, ← run_append, h.ans _ (hu.append hw), h.ans _ (hv.append hw)]
    exact e w hw
theorem IsLeast.sub (h : IsLeast ls ac B T) (h' : IsLeast ls ac B' T') {t : List Nat} (ht : t ∈ T) : t ∈ T' := by
  obtain ⟨i, hi⟩ := List.getElem?_of_mem ht
  obtain ⟨r1, o1⟩ := h.run i t hi
  obtain ⟨t', h1, h2⟩ := h'.least t o1
  obtain ⟨r2, o2⟩ := h'.run _ _ h1
  have e : B.run 0 t' = B.run 0 t := (h.nerode o2 o1).mpr ((h'.nerode o2 o1).mp r2)
  obtain ⟨t2, h3, h4⟩ := h.least t' o2
  rw [e, r1, hi] at h3
  cases h3
  have : t = t' := over_inj h.ok (by rw [h.ls_]; exact o1) (by rw [h.ls_]; exact o2) (by omega)
  rw [this]
  exact List.mem_of_getElem? h1
theorem IsLeast.texts (h : IsLeast ls ac B T) (h' : IsLeast ls ac B' T') : T = T' :=
  asc_ext num h.asc h'.asc fun _ => ⟨h.sub h', h'.sub h⟩
theorem least_one (h : IsLeast ls ac B T) (h' : IsLeast ls ac B' T') : B = B' ∧ T = T' := by
  have eT := h.texts h'
  refine ⟨?_, eT⟩
  have en : B.n = B'.n := by rw [← h.len, ← h'.len, eT]
  have el : B.ls = B'.ls := by rw [h.ls_, h'.ls_]
  have hmv : ∀ c ∈ ls, ∀ i, i < B.n → B.mv c i = B'.mv c i := by
    intro c hc i hi
    have hi' : i < T.length := by rw [h.len]; exact hi
    have ht : T[i]? = some T[i] := List.getElem?_eq_getElem hi'
    generalize T[i] = t at ht
    obtain ⟨r1, o1⟩ := h.run i _ ht
    have ht' : T'[i]? = some t := by rw [← eT]; exact ht
    obtain ⟨r1', _⟩ := h'.run i _ ht'
    obtain ⟨u, h1, h2⟩ := h.least (t ++ [c]) (o1.snoc hc)
    obtain ⟨r2, o2⟩ := h.run _ _ h1
    rw [eT] at h1
    obtain ⟨r2', _⟩ := h'.run _ _ h1
    have e := (h'.nerode o2 (o1.snoc hc)).mpr ((h.nerode o2 (o1.snoc hc)).mp r2)
    rw [run_snoc, r1] at r2'
    rw [run_snoc, r1'] at e
    rw [← r2', e]
  have hrow : ∀ c ∈ ls, B.row c = B'.row c := by
    intro c hc
    have c1 : c ∈ B.ls := by rw [h.ls_]; exact hc
    have c2 : c ∈ B'.ls := by rw [h'.ls_]; exact hc
    refine List.ext_getElem? fun i => ?_
    by_cases hi : i < B.n
    · rw [row_get h.ok c1 hi, row_get h'.ok c2 (by omega), hmv c hc i hi]
    · rw [List.getElem?_eq_none_iff.mpr (by rw [row_len h.ok c1]; omega), List.getElem?_eq_none_iff.mpr (by rw [row_len h'.ok c2]; omega)]
  have er : B.rows = B'.rows := by
    rw [rows_eq h.ok, rows_eq h'.ok, ← el, h.ls_]
    exact List.map_congr_left hrow
  have ey : B.yes = B'.yes := by
    refine asc_ext (fun x => x) h.ok.ya h'.ok.ya fun x => ?_
    have key : ∀ {C : Aut} {S : List (List Nat)}, IsLeast ls ac C S → (x ∈ C.yes ↔ ∃ t, S[x]? = some t ∧ ac t = true) := by
      intro C S g
      constructor
      · intro hx
        have hx' : x < S.length := by rw [g.len]; exact g.ok.yb x hx
        have ht : S[x]? = some S[x] := List.getElem?_eq_getElem hx'
        obtain ⟨r, o⟩ := g.run x _ ht
        refine ⟨_, ht, ?_⟩
        rw [← g.ans _ o, r]
        exact decide_eq_true hx
      · rintro ⟨t, ht, e⟩
        obtain ⟨r, o⟩ := g.run x _ ht
        rw [← g.ans _ o, r] at e
        exact of_decide_eq_true e
    rw [key h, key h', eT]
  cases B; cases B'
  simp only at el er ey
  rw [el, er, ey]
/-- the texts are found again -/
theorem IsLeast.bfs (h : IsLeast ls ac B T) : (B.bfs 0).map (·.2) = T := by
  have I := bfs_all h.ok (s := 0) h.ok.n1
  refine asc_ext num ?_ h.asc fun x => ⟨fun hx => ?_, fun hx => ?_⟩
  · rw [List.pairwise_map]; exact I.asc
  · obtain ⟨⟨q, w⟩, hm, rfl⟩ := List.mem_map.mp hx
    have hr := I.run _ hm
    have ho := I.over _ hm
    simp only at hr ho
    obtain ⟨t, h1, h2⟩ := h.least w (by rw [← h.ls_]; exact ho)
    rw [hr] at h1
    obtain ⟨r1, o1⟩ := h.run _ _ h1
    obtain ⟨w', h3, h4⟩ := I.least t (by rw [h.ls_]; exact o1)
    rw [r1] at h3
    have e : w' = w := by
      have hn := I.nd
      have : ∀ {L : Lst}, (L.map (·.1)).Nodup → (q, w') ∈ L → (q, w) ∈ L → w' = w := by
        intro L
        induction L with
        | nil => intro _ h; simp at h
        | cons p L ih =>
          intro hn h1 h2
          rw [List.map_cons, List.nodup_cons] at hn
          rcases List.mem_cons.mp h1 with e1 | e1
          · rcases List.mem_cons.mp h2 with e2 | e2
            · rw [← e1] at e2; exact (Prod.mk.inj e2).2.symm
            · exact absurd (List.mem_map.mpr ⟨_, e2, by rw [← e1]⟩) hn.1
          · rcases List.mem_cons.mp h2 with e2 | e2
            · exact absurd (List.mem_map.mpr ⟨_, e1, by rw [← e2]⟩) hn.1
            · exact ih hn.2 e1 e2
      exact this hn h3 hm
    subst e
    have : t = w' := over_inj h.ok (by rw [h.ls_]; exact o1) ho (by omega)
    rw [← this]
    exact List.mem_of_getElem? h1
  · obtain ⟨i, hi⟩ := List.getElem?_of_mem hx
    obtain ⟨r1, o1⟩ := h.run _ _ hi
    obtain ⟨w', h3, h4⟩ := I.least x (by rw [h.ls_]; exact o1)
    rw [r1] at h3
    have hr := I.run _ h3
    have ho := I.over _ h3
    simp only at hr ho
    obtain ⟨t, h1, h2⟩ := h.least w' (by rw [← h.ls_]; exact ho)
    rw [hr, hi] at h1
    cases h1
    have : x = w' := over_inj h.ok (by rw [h.ls_]; exact o1) ho (by omega)
    rw [this]
    exact List.mem_map.mpr ⟨_, h3, rfl⟩
end

/-! ### a reader numbered anew -/
theorem idx_at {l : List Nat} (hn : l.Nodup) {i x : Nat} (h : l[i]? = some x) : l.idxOf x = i := by
  have hm : x ∈ l := List.mem_of_getElem? h
  have hlt : l.idxOf x < l.length := List.idxOf_lt_length_of_mem hm
  have h2 : l[l.idxOf x]? = some x := by rw [List.getElem?_eq_getElem hlt, List.getElem_idxOf]
  exact (List.getElem?_inj hlt hn).mp (by rw [h2, h])
theorem at_idx {l : List Nat} {x : Nat} (hm : x ∈ l) : l[l.idxOf x]? = some x := by
  rw [List.getElem?_eq_getElem (List.idxOf_lt_length_of_mem hm), List.getElem_idxOf]

def relab (A : Aut) (f : Nat → Nat) (P : Lst) : Aut where
  ls := A.ls
  rows := A.ls.map fun c => P.map fun p => (P.map fun r => f r.1).idxOf (f (A.mv c p.1))
  yes := (List.range P.length).filter fun i => A.acc ((P.map (·.1)).getD i 0)

structure Picks (A : Aut) (s : Nat) (f : Nat → Nat) (P : Lst) : Prop where
  run : ∀ p ∈ P, A.run s p.2 = p.1
  over : ∀ p ∈ P, Over A.ls p.2
  asc : P.Pairwise (fun p q => num p.2 < num q.2)
  start : P[0]? = some (s, [])
  fd : (P.map fun r => f r.1).Nodup
  cover : ∀ w, Over A.ls w → ∃ p ∈ P, f p.1 = f (A.run s w) ∧ num p.2 ≤ num w
  l60 : P.length ≤ 60
  c1 : ∀ u v c, Over A.ls u → Over A.ls v → c ∈ A.ls → f (A.run s u) = f (A.run s v) → f (A.run s (u ++ [c])) = f (A.run s (v ++ [c]))
  c2 : ∀ u v, Over A.ls u → Over A.ls v → f (A.run s u) = f (A.run s v) → A.acc (A.run s u) = A.acc (A.run s v)

theorem lookup_zip_map {β : Type} (g : Nat → β) : ∀ {ls : List Nat} {c : Nat}, c ∈ ls → (ls.zip (ls.map g)).lookup c = some (g c)
  | [], _, h => by simp at h
  | a :: ls, c, h => by
    rw [List.map_cons, List.zip_cons_cons, List.lookup_cons]
    by_cases e : c = a
    · subst e; simp
    · rw [show (c == a) = false from beq_eq_false_iff_ne.mpr e]
      rcases List.mem_cons.mp h with h | h
      · exact absurd h e
      · exact lookup_zip_map g h

section
variable {A : Aut} {s : Nat} {f : Nat → Nat} {P : Lst}
theorem Picks.pos (K : Picks A s f P) : 0 < P.length := (List.getElem?_eq_some_iff.mp K.start).1
theorem relab_n (ok : A.Ok) : (relab A f P).n = P.length := by
  have h := ok.l1
  unfold Aut.n relab
  cases e : A.ls with
  | nil => rw [e] at h; simp at h
  | cons c r => simp
theorem relab_row {c : Nat} (hc : c ∈ A.ls) : (relab A f P).row c = P.map fun p => (P.map fun r => f r.1).idxOf (f (A.mv c p.1)) := by
  unfold Aut.row relab
  simp only
  rw [lookup_zip_map _ hc]
  rfl
theorem relab_mv {c i : Nat} {p : Nat × List Nat} (hc : c ∈ A.ls) (hi : P[i]? = some p) : (relab A f P).mv c i = (P.map fun r => f r.1).idxOf (f (A.mv c p.1)) := by
  unfold Aut.mv
  rw [relab_row hc, List.getD_eq_getElem?_getD, List.getElem?_map, hi]
  rfl
theorem Picks.mem (K : Picks A s f P) {w : List Nat} (hw : Over A.ls w) : f (A.run s w) ∈ P.map fun r => f r.1 := by
  obtain ⟨p, hp, e, _⟩ := K.cover w hw
  exact List.mem_map.mpr ⟨p, hp, e⟩
theorem Picks.at (K : Picks A s f P) {w : List Nat} (hw : Over A.ls w) : ∃ p, P[(P.map fun r => f r.1).idxOf (f (A.run s w))]? = some p ∧ f p.1 = f (A.run s w) ∧ num p.2 ≤ num w := by
  have h := at_idx (K.mem hw)
  rw [List.getElem?_map] at h
  cases e : P[(P.map fun r => f r.1).idxOf (f (A.run s w))]? with
  | none => rw [e] at h; cases h
  | some p =>
    rw [e] at h
    have h2 : f p.1 = f (A.run s w) := Option.some.inj h
    refine ⟨p, rfl, h2, ?_⟩
    obtain ⟨p', hp', e', hle⟩ := K.cover w hw
    obtain ⟨j, hj⟩ := List.getElem?_of_mem hp'
    have h3 : (P.map fun r => f r.1)[j]? = some (f (A.run s w)) := by rw [List.getElem?_map, hj]; simp [e']
    have h4 := idx_at K.fd h3
    rw [h4, hj] at e
    cases e
    exact hle
theorem relab_run (K : Picks A s f P) {w : List Nat} : Over A.ls w → (relab A f P).run 0 w = (P.map fun r => f r.1).idxOf (f (A.run s w)) := by
  induction w using snoc_ind with
  | h0 =>
    intro _
    have h : (P.map fun r => f r.1)[0]? = some (f s) := by rw [List.getElem?_map, K.start]; rfl
    exact (idx_at K.fd h).symm
  | hs w c ih =>
    intro ho
    rw [run_snoc, ih ho.init]
    obtain ⟨p, h1, h2, _⟩ := K.at ho.init
    rw [relab_mv ho.last h1]
    have hp := List.mem_of_getElem? h1
    have h3 := K.c1 p.2 w c (K.over p hp) ho.init ho.last (by rw [K.run p hp]; exact h2)
    rw [run_snoc, run_snoc, K.run p hp] at h3
    rw [h3, run_snoc]
theorem relab_ok (ok : A.Ok) (K : Picks A s f P) : (relab A f P).Ok := by
  have en := relab_n (f := f) (P := P) ok
  refine ⟨ok.l1, ok.l3, ok.asc, ok.cod, by simp [relab], ?_, ?_, ?_, ?_, ?_, ?_⟩
  · intro r hr
    obtain ⟨c, _, rfl⟩ := List.mem_map.mp hr
    rw [en, List.length_map]
  · intro r hr x hx
    obtain ⟨c, hc, rfl⟩ := List.mem_map.mp hr
    obtain ⟨p, hp, rfl⟩ := List.mem_map.mp hx
    have h := K.mem ((K.over p hp).snoc hc)
    rw [run_snoc, K.run p hp] at h
    have := List.idxOf_lt_length_of_mem h
    rw [List.length_map] at this
    rw [en]
    exact this
  · rw [en]; exact K.pos
  · rw [en]; exact K.l60
  · exact List.Pairwise.filter _ List.pairwise_lt_range
  · intro y hy
    have := (List.mem_filter.mp hy).1
    rw [en]
    exact List.mem_range.mp this
theorem relab_acc {i : Nat} {p : Nat × List Nat} (hi : P[i]? = some p) : (relab A f P).acc i = A.acc p.1 := by
  have hlt : i < P.length := (List.getElem?_eq_some_iff.mp hi).1
  have e : (P.map (·.1)).getD i 0 = p.1 := by rw [List.getD_eq_getElem?_getD, List.getElem?_map, hi]; rfl
  unfold Aut.acc relab
  simp only
  by_cases h : p.1 ∈ A.yes
  · rw [decide_eq_true h]
    refine decide_eq_true (List.mem_filter.mpr ⟨List.mem_range.mpr hlt, ?_⟩)
    rw [e]; exact decide_eq_true h
  · rw [decide_eq_false h]
    refine decide_eq_false fun hm => h ?_
    have h2 := (List.mem_filter.mp hm).2
    rw [e] at h2
    exact of_decide_eq_true h2
theorem relab_ans (K : Picks A s f P) {w : List Nat} (hw : Over A.ls w) : (relab A f P).acc ((relab A f P).run 0 w) = A.acc (A.run s w) := by
  rw [relab_run K hw]
  obtain ⟨p, h1, h2, _⟩ := K.at hw
  rw [relab_acc h1]
  have hp := List.mem_of_getElem? h1
  have h3 := K.c2 p.2 w (K.over p hp) hw (by rw [K.run p hp]; exact h2)
  rw [K.run p hp] at h3
  exact h3
theorem relab_least (ok : A.Ok) (K : Picks A s f P) (c3 : ∀ u v, Over A.ls u → Over A.ls v → Alike A (A.run s u) (A.run s v) → f (A.run s u) = f (A.run s v)) :
    IsLeast A.ls (fun w => A.acc (A.run s w)) (relab A f P) (P.map (·.2)) := by
  have okB := relab_ok ok K
  have en := relab_n (f := f) (P := P) ok
  have hrun : ∀ (i : Nat) p, P[i]? = some p → (relab A f P).run 0 p.2 = i := by
    intro i p hi
    have hp := List.mem_of_getElem? hi
    rw [relab_run K (K.over p hp), K.run p hp]
    exact idx_at K.fd (by rw [List.getElem?_map, hi]; rfl)
  refine ⟨okB, rfl, by rw [en, List.length_map], fun i w h => ?_, fun w hw => ?_, ?_, fun w hw => relab_ans K hw, fun i j hi hj hal => ?_⟩
  · rw [List.getElem?_map] at h
    cases e : P[i]? with
    | none => rw [e] at h; cases h
    | some p =>
      rw [e] at h
      have h2 : p.2 = w := Option.some.inj h
      subst h2
      exact ⟨hrun i p e, K.over p (List.mem_of_getElem? e)⟩
  · rw [relab_run K hw]
    obtain ⟨p, h1, h2, h3⟩ := K.at hw
    exact ⟨p.2, by rw [List.getElem?_map, h1]; rfl, h3⟩
  · rw [List.pairwise_map]; exact K.asc
  · rw [en] at hi hj
    have h1 : P[i]? = some P[i] := List.getElem?_eq_getElem hi
    have h2 : P[j]? = some P[j] := List.getElem?_eq_getElem hj
    have m1 := List.mem_of_getElem? h1
    have m2 := List.mem_of_getElem? h2
    have h3 := c3 P[i].2 P[j].2 (K.over _ m1) (K.over _ m2) (fun w hw => by
      have a1 := relab_ans K ((K.over _ m1).append hw)
      have a2 := relab_ans K ((K.over _ m2).append hw)
      rw [run_append, run_append, hrun i _ h1] at a1
      rw [run_append, run_append, hrun j _ h2] at a2
      rw [← a1, ← a2]
      exact hal w hw)
    rw [K.run _ m1, K.run _ m2] at h3
    have e1 : (P.map fun r => f r.1)[i]? = some (f P[j].1) := by rw [List.getElem?_map, h1, ← h3]; rfl
    have e2 : (P.map fun r => f r.1)[j]? = some (f P[j].1) := by rw [List.getElem?_map, h2]; rfl
    exact (idx_at K.fd e1).symm.trans (idx_at K.fd e2)
end

/-- reader_from -/
def rf (A : Aut) (s : Nat) : Aut := relab A (fun q => q) (A.bfs s)
theorem bfs_picks {A : Aut} (ok : A.Ok) {s : Nat} (hs : s < A.n) : Picks A s (fun q => q) (A.bfs s) := by
  have I := bfs_all ok hs
  refine ⟨I.run, I.over, I.asc, I.start, I.nd, fun w hw => ?_, Nat.le_trans (bfsAt_len ok hs _) ok.n60, fun u v c _ _ _ e => ?_, fun u v _ _ e => ?_⟩
  · obtain ⟨w', h1, h2⟩ := I.least w hw
    exact ⟨_, h1, rfl, h2⟩
  · show A.run s (u ++ [c]) = A.run s (v ++ [c])
    have e' : A.run s u = A.run s v := e
    rw [run_snoc, run_snoc, e']
  · have e' : A.run s u = A.run s v := e
    rw [e']
theorem rf_ok {A : Aut} (ok : A.Ok) {s : Nat} (hs : s < A.n) : (rf A s).Ok := relab_ok ok (bfs_picks ok hs)
theorem rf_ans {A : Aut} (ok : A.Ok) {s : Nat} (hs : s < A.n) {w : List Nat} (hw : Over A.ls w) : (rf A s).acc ((rf A s).run 0 w) = A.acc (A.run s w) := relab_ans (bfs_picks ok hs) hw
theorem rf_least {A : Aut} (ok : A.Ok) {s : Nat} (hs : s < A.n) (red : ∀ i j, i < A.n → j < A.n → Alike A i j → i = j) : IsLeast A.ls (fun w => A.acc (A.run s w)) (rf A s) ((A.bfs s).map (·.2)) :=
  relab_least ok (bfs_picks ok hs) fun u v hu hv h => red _ _ (run_lt ok hu hs) (run_lt ok hv hs) h

/-! ### classes -/
structure ClsOk (A : Aut) (f : List Nat) : Prop where
  len : f.length = A.n
  iff : ∀ i j, i < A.n → j < A.n → (f.getD i 0 = f.getD j 0 ↔ Alike A i j)
theorem Alike.mv {A : Aut} {i j c : Nat} (h : Alike A i j) (hc : c ∈ A.ls) : Alike A (A.mv c i) (A.mv c j) := fun w hw => h (c :: w) (Over.cons hc hw)
theorem Alike.acc {A : Aut} {i j : Nat} (h : Alike A i j) : A.acc i = A.acc j := h [] Over.nil

/-- the states put together by their classes; F: the first state of each class -/
def quot (R : Aut) (f F : List Nat) : Aut where
  ls := R.ls
  rows := R.ls.map fun c => F.map fun q => f.getD (R.mv c q) 0
  yes := (List.range F.length).filter fun k => R.acc (F.getD k 0)
structure Firsts (R : Aut) (f F : List Nat) : Prop where
  at_ : ∀ (k q : Nat), F[k]? = some q → q < R.n ∧ f.getD q 0 = k
  lt : ∀ i, i < R.n → f.getD i 0 < F.length
section
variable {R : Aut} {f F : List Nat}
theorem Firsts.pos (ok : R.Ok) (S : Firsts R f F) : 0 < F.length := by have := S.lt 0 ok.n1; omega
theorem quot_n (ok : R.Ok) : (quot R f F).n = F.length := by
  have h := ok.l1
  unfold Aut.n quot
  cases e : R.ls with
  | nil => rw [e] at h; simp at h
  | cons c r => simp
theorem Firsts.len (ok : R.Ok) (S : Firsts R f F) : F.length ≤ R.n := by
  have h : (List.range F.length).length ≤ ((List.range R.n).map fun i => f.getD i 0).length := by
    refine List.Nodup.length_le_of_subset List.nodup_range fun k hk => ?_
    have hk' := List.mem_range.mp hk
    obtain ⟨h1, h2⟩ := S.at_ k F[k] (List.getElem?_eq_getElem hk')
    exact List.mem_map.mpr ⟨_, List.mem_range.mpr h1, h2⟩
  simpa using h
theorem quot_ok (ok : R.Ok) (C : ClsOk R f) (S : Firsts R f F) : (quot R f F).Ok := by
  have en := quot_n (f := f) (F := F) ok
  refine ⟨ok.l1, ok.l3, ok.asc, ok.cod, by simp [quot], ?_, ?_, ?_, ?_, ?_, ?_⟩
  · intro r hr
    obtain ⟨c, _, rfl⟩ := List.mem_map.mp hr
    rw [en, List.length_map]
  · intro r hr x hx
    obtain ⟨c, hc, rfl⟩ := List.mem_map.mp hr
    obtain ⟨q, hq, rfl⟩ := List.mem_map.mp hx
    obtain ⟨k, hk⟩ := List.getElem?_of_mem hq
    rw [en]
    exact S.lt _ (mv_lt ok hc (S.at_ k q hk).1)
  · rw [en]; exact S.pos ok
  · rw [en]; exact Nat.le_trans (S.len ok) ok.n60
  · exact List.Pairwise.filter _ List.pairwise_lt_range
  · intro y hy
    have := (List.mem_filter.mp hy).1
    rw [en]
    exact List.mem_range.mp this
theorem Firsts.get (S : Firsts R f F) {i : Nat} (hi : i < R.n) : ∃ q, F[f.getD i 0]? = some q ∧ q < R.n ∧ f.getD q 0 = f.getD i 0 := by
  have h := S.lt i hi
  have e := List.getElem?_eq_getElem h
  obtain ⟨h1, h2⟩ := S.at_ _ _ e
  exact ⟨_, e, h1, h2⟩
theorem quot_mv (ok : R.Ok) (C : ClsOk R f) (S : Firsts R f F) {c i : Nat} (hc : c ∈ R.ls) (hi : i < R.n) : (quot R f F).mv c (f.getD i 0) = f.getD (R.mv c i) 0 := by
  obtain ⟨q, h1, h2, h3⟩ := S.get hi
  have hrow : (quot R f F).row c = F.map fun q => f.getD (R.mv c q) 0 := by
    unfold Aut.row quot
    simp only
    rw [lookup_zip_map _ hc]
    rfl
  unfold Aut.mv
  rw [hrow, List.getD_eq_getElem?_getD, List.getElem?_map, h1]
  show f.getD (R.mv c q) 0 = f.getD (R.mv c i) 0
  exact (C.iff _ _ (mv_lt ok hc h2) (mv_lt ok hc hi)).mpr (((C.iff _ _ h2 hi).mp h3).mv hc)
theorem quot_run (ok : R.Ok) (C : ClsOk R f) (S : Firsts R f F) {w : List Nat} : ∀ {i : Nat}, Over R.ls w → i < R.n → (quot R f F).run (f.getD i 0) w = f.getD (R.run i w) 0 := by
  induction w with
  | nil => intro i _ _; rfl
  | cons c w ih =>
    intro i ho hi
    rw [run_cons, run_cons, quot_mv ok C S ho.head hi]
    exact ih ho.tail (mv_lt ok ho.head hi)
theorem quot_acc (ok : R.Ok) (C : ClsOk R f) (S : Firsts R f F) {i : Nat} (hi : i < R.n) : (quot R f F).acc (f.getD i 0) = R.acc i := by
  obtain ⟨q, h1, h2, h3⟩ := S.get hi
  have e : R.acc q = R.acc i := ((C.iff _ _ h2 hi).mp h3).acc
  have eF : F.getD (f.getD i 0) 0 = q := by rw [List.getD_eq_getElem?_getD, h1]; rfl
  rw [← e]
  unfold Aut.acc quot
  simp only
  by_cases h : q ∈ R.yes
  · rw [decide_eq_true h]
    refine decide_eq_true (List.mem_filter.mpr ⟨List.mem_range.mpr (S.lt i hi), ?_⟩)
    rw [eF]; exact decide_eq_true h
  · rw [decide_eq_false h]
    refine decide_eq_false fun hm => h ?_
    have h2 := (List.mem_filter.mp hm).2
    rw [eF] at h2
    exact of_decide_eq_true h2
theorem quot_red (ok : R.Ok) (C : ClsOk R f) (S : Firsts R f F) : ∀ i j, i < (quot R f F).n → j < (quot R f F).n → Alike (quot R f F) i j → i = j := by
  intro i j hi hj hal
  rw [quot_n ok] at hi hj
  obtain ⟨h1, h2⟩ := S.at_ i F[i] (List.getElem?_eq_getElem hi)
  obtain ⟨h3, h4⟩ := S.at_ j F[j] (List.getElem?_eq_getElem hj)
  rw [← h2, ← h4]
  refine (C.iff _ _ h1 h3).mpr fun w hw => ?_
  have := hal w hw
  rw [← h2, ← h4, quot_run ok C S hw h1, quot_run ok C S hw h3, quot_acc ok C S (run_lt ok hw h1), quot_acc ok C S (run_lt ok hw h3)] at this
  exact this
end
/-- least_of -/
theorem least_of_ok {A : Aut} (ok : A.Ok) {f F : List Nat} (C : ClsOk (rf A 0) f) (S : Firsts (rf A 0) f F) :
    IsLeast A.ls (fun w => A.acc (A.run 0 w)) (rf (quot (rf A 0) f F) (f.getD 0 0)) (((quot (rf A 0) f F).bfs (f.getD 0 0)).map (·.2)) := by
  have okR := rf_ok ok (s := 0) ok.n1
  have okQ := quot_ok okR C S
  have h0 : f.getD 0 0 < (quot (rf A 0) f F).n := by rw [quot_n okR]; exact S.lt 0 okR.n1
  have h := rf_least okQ h0 (quot_red okR C S)
  have e : ∀ w, Over A.ls w → (quot (rf A 0) f F).acc ((quot (rf A 0) f F).run (f.getD 0 0) w) = A.acc (A.run 0 w) := by
    intro w hw
    rw [quot_run okR C S (w := w) hw okR.n1, quot_acc okR C S (run_lt okR (w := w) hw okR.n1)]
    exact rf_ans ok ok.n1 hw
  exact ⟨h.ok, h.ls_, h.len, h.run, h.least, h.asc, fun w hw => (h.ans w hw).trans (e w hw), h.red⟩
end K29
namespace K29

/-! ### the different ones of a list, in the order in which they first stand -/
section
variable {κ μ : Type} [DecidableEq κ] [DecidableEq μ]
def ddStep (a : List κ) (x : κ) : List κ := if x ∈ a then a else a ++ [x]
def dd (l : List κ) : List κ := l.foldl ddStep []
def cnt (l : List κ) : Nat := (dd l).length
theorem dd_snoc (l : List κ) (x : κ) : dd (l ++ [x]) = ddStep (dd l) x := by unfold dd; rw [List.foldl_append]; rfl
theorem mem_ddStep {a : List κ} {x y : κ} : y ∈ ddStep a x ↔ y ∈ a ∨ y = x := by
  unfold ddStep
  by_cases h : x ∈ a
  · rw [if_pos h]
    exact ⟨fun h => .inl h, fun h' => h'.elim id fun e => e ▸ h⟩
  · rw [if_neg h]; simp
theorem mem_dd {l : List κ} {y : κ} : y ∈ dd l ↔ y ∈ l := by
  induction l using snoc_ind with
  | h0 => simp [dd]
  | hs l a ih => rw [dd_snoc, mem_ddStep, ih]; simp
theorem nd_ddStep {a : List κ} {x : κ} (h : a.Nodup) : (ddStep a x).Nodup := by
  unfold ddStep
  by_cases hx : x ∈ a
  · rw [if_pos hx]; exact h
  · rw [if_neg hx, List.nodup_append]
    refine ⟨h, by simp, ?_⟩
    intro u hu v hv e
    simp at hv
    subst e; subst hv
    exact hx hu
theorem nd_dd (l : List κ) : (dd l).Nodup := by
  induction l using snoc_ind with
  | h0 => simp [dd]
  | hs l a ih => rw [dd_snoc]; exact nd_ddStep ih
theorem cnt_le_length (l : List κ) : cnt l ≤ l.length := List.Nodup.length_le_of_subset (nd_dd l) fun _ h => mem_dd.mp h
theorem cnt_pos {l : List κ} (h : 0 < l.length) : 1 ≤ cnt l := by
  have : l[0] ∈ dd l := mem_dd.mpr (List.getElem_mem h)
  exact List.length_pos_of_mem this
theorem dd_map {g : κ → μ} (l : List κ) : (∀ x ∈ l, ∀ y ∈ l, g x = g y → x = y) → dd (l.map g) = (dd l).map g := by
  induction l using snoc_ind with
  | h0 => intro _; rfl
  | hs l a ih =>
    intro hi
    have ih' := ih fun x hx y hy => hi x (List.mem_append_left _ hx) y (List.mem_append_left _ hy)
    rw [List.map_append, List.map_singleton, dd_snoc, dd_snoc, ih']
    unfold ddStep
    by_cases h : a ∈ dd l
    · rw [if_pos h, if_pos (List.mem_map.mpr ⟨a, h, rfl⟩)]
    · have h2 : ¬ g a ∈ (dd l).map g := by
        intro hm
        obtain ⟨b, hb, e⟩ := List.mem_map.mp hm
        have := hi b (List.mem_append_left _ (mem_dd.mp hb)) a (by simp) e
        subst this
        exact h hb
      rw [if_neg h, if_neg h2]; simp
theorem cnt_map {g : κ → μ} {l : List κ} (h : ∀ x ∈ l, ∀ y ∈ l, g x = g y → x = y) : cnt (l.map g) = cnt l := by
  unfold cnt; rw [dd_map l h, List.length_map]
/-- two lists with the same members, none twice -/
theorem len_of_mem {a b : List κ} (ha : a.Nodup) (hb : b.Nodup) (h : ∀ x, x ∈ a ↔ x ∈ b) : a.length = b.length :=
  Nat.le_antisymm (List.Nodup.length_le_of_subset ha fun x hx => (h x).mp hx) (List.Nodup.length_le_of_subset hb fun x hx => (h x).mpr hx)

/-! ### rows numbered alike -/
def numb (rows : List κ) : List Nat := rows.map fun x => (dd rows).idxOf x
theorem numb_len (rows : List κ) : (numb rows).length = rows.length := by unfold numb; rw [List.length_map]
theorem idx_inj {l : List κ} {x y : κ} (hx : x ∈ l) (hy : y ∈ l) (e : l.idxOf x = l.idxOf y) : x = y := by
  have h1 := List.idxOf_lt_length_of_mem hx
  have h2 : l[l.idxOf x]'h1 = x := List.getElem_idxOf h1
  have h3 := List.idxOf_lt_length_of_mem hy
  have h4 : l[l.idxOf y]'h3 = y := List.getElem_idxOf h3
  rw [← h2, ← h4]
  congr 1
theorem numb_get {rows : List κ} {i : Nat} {x : κ} (h : rows[i]? = some x) : (numb rows).getD i 0 = (dd rows).idxOf x := by
  unfold numb; rw [List.getD_eq_getElem?_getD, List.getElem?_map, h]; rfl
theorem numb_eq {rows : List κ} {i j : Nat} {x y : κ} (h : rows[i]? = some x) (h' : rows[j]? = some y) : (numb rows).getD i 0 = (numb rows).getD j 0 ↔ x = y := by
  rw [numb_get h, numb_get h']
  exact ⟨fun e => idx_inj (mem_dd.mpr (List.mem_of_getElem? h)) (mem_dd.mpr (List.mem_of_getElem? h')) e, fun e => by rw [e]⟩
theorem numb_cnt (rows : List κ) : cnt (numb rows) = cnt rows := by
  unfold numb
  exact cnt_map fun x hx y hy e => idx_inj (mem_dd.mpr hx) (mem_dd.mpr hy) e
/-- all numbers below one that is taken are taken -/
def Down (f : List Nat) : Prop := ∀ x ∈ f, ∀ v, v ≤ x → v ∈ f
theorem nd_getElem {l : List κ} (hn : l.Nodup) {i : Nat} (h : i < l.length) : l.idxOf l[i] = i := by
  have hm : l[i] ∈ l := List.getElem_mem h
  have hlt : l.idxOf l[i] < l.length := List.idxOf_lt_length_of_mem hm
  have h2 : l[l.idxOf l[i]]? = some l[i] := by rw [List.getElem?_eq_getElem hlt, List.getElem_idxOf]
  exact (List.getElem?_inj hlt hn).mp (by rw [h2, List.getElem?_eq_getElem h])
theorem numb_down (rows : List κ) : Down (numb rows) := by
  intro x hx v hv
  obtain ⟨r, hr, rfl⟩ := List.mem_map.mp hx
  have h1 := List.idxOf_lt_length_of_mem (mem_dd.mpr hr)
  have h2 : v < (dd rows).length := by omega
  refine List.mem_map.mpr ⟨(dd rows)[v], mem_dd.mp (List.getElem_mem h2), nd_getElem (nd_dd rows) h2⟩
/-- while the rows are walked -/
theorem dd_grow (l r : List κ) : ∃ M, dd (l ++ r) = dd l ++ M := by
  induction r using snoc_ind with
  | h0 => exact ⟨[], by simp⟩
  | hs r a ih =>
    obtain ⟨M, e⟩ := ih
    rw [← List.append_assoc, dd_snoc, e]
    unfold ddStep
    by_cases h : a ∈ dd l ++ M
    · rw [if_pos h]; exact ⟨M, rfl⟩
    · rw [if_neg h]; exact ⟨M ++ [a], by simp⟩
theorem idx_grow {l M : List κ} {x : κ} (h : x ∈ l) : (l ++ M).idxOf x = l.idxOf x := by
  rw [List.idxOf_append, if_pos h]
theorem numb_snoc (l : List κ) (a : κ) : numb (l ++ [a]) = numb l ++ [(ddStep (dd l) a).idxOf a] := by
  unfold numb
  rw [List.map_append, dd_snoc]
  congr 1
  refine List.map_congr_left fun x hx => ?_
  have hm : x ∈ dd l := mem_dd.mpr hx
  unfold ddStep
  by_cases h : a ∈ dd l
  · rw [if_pos h]
  · rw [if_neg h, idx_grow hm]
end

theorem nd_map_on {α β : Type} {l : List α} {g : α → β} (hn : l.Nodup) (hi : ∀ x ∈ l, ∀ y ∈ l, g x = g y → x = y) : (l.map g).Nodup := by
  induction l with
  | nil => simp
  | cons a l ih =>
    rw [List.nodup_cons] at hn
    rw [List.map_cons, List.nodup_cons]
    refine ⟨fun hm => ?_, ih hn.2 fun x hx y hy => hi x (List.mem_cons_of_mem _ hx) y (List.mem_cons_of_mem _ hy)⟩
    obtain ⟨b, hb, e⟩ := List.mem_map.mp hm
    have := hi b (List.mem_cons_of_mem _ hb) a List.mem_cons_self e
    subst this
    exact hn.1 hb

theorem getD_of {l : List Nat} {i : Nat} (h : i < l.length) : l.getD i 0 = l[i] := by rw [List.getD_eq_getElem?_getD, List.getElem?_eq_getElem h]; rfl
/-- as many different ones: the finer one is not finer -/
theorem pigeon {f g : List Nat} (hl : f.length = g.length) (fine : ∀ i j, i < f.length → j < f.length → f.getD i 0 = f.getD j 0 → g.getD i 0 = g.getD j 0) (hc : cnt f ≤ cnt g) {i j : Nat} (hi : i < f.length) (hj : j < f.length)
    (e : g.getD i 0 = g.getD j 0) : f.getD i 0 = f.getD j 0 := by
  refine Decidable.byContradiction fun hne => ?_
  let r : Nat → Nat := fun v => g.idxOf v
  have hr : ∀ v ∈ g, r v < f.length ∧ g.getD (r v) 0 = v := fun v hv => by
    have h := List.idxOf_lt_length_of_mem hv
    exact ⟨by rw [hl]; exact h, by rw [getD_of h, List.getElem_idxOf]⟩
  have key : ∀ x, x < f.length → f.getD x 0 = f.getD (r (g.getD x 0)) 0 := by
    intro x hx
    refine Decidable.byContradiction fun hxn => ?_
    have hgx : g.getD x 0 ∈ g := by rw [getD_of (by omega)]; exact List.getElem_mem _
    have hnd : (f.getD x 0 :: (dd g).map fun v => f.getD (r v) 0).Nodup := by
      rw [List.nodup_cons]
      refine ⟨fun hm => ?_, nd_map_on (nd_dd g) fun u hu v hv e => ?_⟩
      · obtain ⟨v, hv, e⟩ := List.mem_map.mp hm
        obtain ⟨h1, h2⟩ := hr v (mem_dd.mp hv)
        have h3 := fine _ _ h1 hx e
        rw [h2] at h3
        subst h3
        exact hxn e.symm
      · obtain ⟨h1, h2⟩ := hr u (mem_dd.mp hu)
        obtain ⟨h3, h4⟩ := hr v (mem_dd.mp hv)
        have h5 := fine _ _ h1 h3 e
        rw [h2, h4] at h5
        exact h5
    have hle := List.Nodup.length_le_of_subset (l₂ := dd f) hnd (by
      intro y hy
      rcases List.mem_cons.mp hy with rfl | hy
      · rw [getD_of hx]; exact mem_dd.mpr (List.getElem_mem _)
      · obtain ⟨v, hv, rfl⟩ := List.mem_map.mp hy
        obtain ⟨h1, _⟩ := hr v (mem_dd.mp hv)
        rw [getD_of h1]; exact mem_dd.mpr (List.getElem_mem _))
    rw [List.length_cons, List.length_map] at hle
    unfold cnt at hc
    omega
  apply hne
  rw [key i hi, key j hj, e]

/-! ### classes made finer until nothing changes -/
def Ref (A : Aut) (f f' : List Nat) : Prop := ∀ i j, i < A.n → j < A.n → (f'.getD i 0 = f'.getD j 0 ↔ f.getD i 0 = f.getD j 0 ∧ ∀ c ∈ A.ls, f.getD (A.mv c i) 0 = f.getD (A.mv c j) 0)
structure RefSt (A : Aut) (f : List Nat) (last : Nat) : Prop where
  len : f.length = A.n
  sound : ∀ i j, i < A.n → j < A.n → Alike A i j → f.getD i 0 = f.getD j 0
  fine : ∀ i j, i < A.n → j < A.n → f.getD i 0 = f.getD j 0 → A.acc i = A.acc j
  prev : last = 0 ∨ ∃ g : List Nat, g.length = A.n ∧ Ref A g f ∧ cnt g = last
section
variable {A : Aut} {f f' : List Nat} {last : Nat}
theorem RefSt.init (len : f.length = A.n) (h : ∀ i j, i < A.n → j < A.n → (f.getD i 0 = f.getD j 0 ↔ A.acc i = A.acc j)) : RefSt A f 0 :=
  ⟨len, fun i j hi hj a => (h i j hi hj).mpr a.acc, fun i j hi hj e => (h i j hi hj).mp e, .inl rfl⟩
theorem RefSt.next (ok : A.Ok) (S : RefSt A f last) (len : f'.length = A.n) (R : Ref A f f') : RefSt A f' (cnt f) :=
  ⟨len, fun i j hi hj a => (R i j hi hj).mpr ⟨S.sound i j hi hj a, fun c hc => S.sound _ _ (mv_lt ok hc hi) (mv_lt ok hc hj) (a.mv hc)⟩,
    fun i j hi hj e => S.fine i j hi hj ((R i j hi hj).mp e).1, .inr ⟨f, S.len, R, rfl⟩⟩
theorem RefSt.cnt_le (S : RefSt A f last) : cnt f ≤ A.n := by rw [← S.len]; exact cnt_le_length f
theorem RefSt.cnt_pos (ok : A.Ok) (S : RefSt A f last) : 1 ≤ cnt f := K29.cnt_pos (by rw [S.len]; exact ok.n1)
theorem RefSt.done (ok : A.Ok) (S : RefSt A f last) (h : cnt f ≤ last) : ClsOk A f := by
  have hp := S.cnt_pos ok
  obtain e | ⟨g, hg, R, e⟩ := S.prev
  · omega
  · have key : ∀ i j, i < A.n → j < A.n → g.getD i 0 = g.getD j 0 → f.getD i 0 = f.getD j 0 := fun i j hi hj he =>
      pigeon (f := f) (g := g) (by rw [S.len, hg]) (fun i j hi hj e => ((R i j (by rw [← S.len]; exact hi) (by rw [← S.len]; exact hj)).mp e).1) (by omega) (by rw [S.len]; exact hi) (by rw [S.len]; exact hj) he
    have stab : ∀ (w : List Nat) i j, Over A.ls w → i < A.n → j < A.n → f.getD i 0 = f.getD j 0 → f.getD (A.run i w) 0 = f.getD (A.run j w) 0 := by
      intro w
      induction w with
      | nil => intro i j _ _ _ e; exact e
      | cons c w ih =>
        intro i j ho hi hj e
        rw [run_cons, run_cons]
        exact ih _ _ ho.tail (mv_lt ok ho.head hi) (mv_lt ok ho.head hj) (key _ _ (mv_lt ok ho.head hi) (mv_lt ok ho.head hj) (((R i j hi hj).mp e).2 c ho.head))
    exact ⟨S.len, fun i j hi hj => ⟨fun e w hw => S.fine _ _ (run_lt ok hw hi) (run_lt ok hw hj) (stab w i j hw hi hj e), S.sound i j hi hj⟩⟩
end

/-! ### the first state of each class -/
theorem firsts_of {R : Aut} (ok : R.Ok) {f : List Nat} (C : ClsOk R f) (D : Down f) {m : Nat} (hm : m ∈ f) (hx : ∀ y ∈ f, y ≤ m) : Firsts R f ((List.range (m + 1)).map fun k => f.idxOf k) := by
  refine ⟨fun k q h => ?_, fun i hi => ?_⟩
  · rw [List.getElem?_map] at h
    by_cases hk : k < m + 1
    · rw [List.getElem?_range hk] at h
      have e : f.idxOf k = q := Option.some.inj h
      have hin : k ∈ f := D m hm k (by omega)
      have hlt := List.idxOf_lt_length_of_mem hin
      subst e
      exact ⟨by rw [← C.len]; exact hlt, by rw [getD_of hlt, List.getElem_idxOf]⟩
    · rw [List.getElem?_eq_none_iff.mpr (by simp; omega)] at h
      cases h
  · rw [List.length_map, List.length_range, getD_of (by rw [C.len]; exact hi)]
    have := hx _ (List.getElem_mem (l := f) (n := i) (by rw [C.len]; exact hi))
    omega

/-! ### the law's own way: the first states of the marks -/
def pickStep (m : Nat → Nat) (P : Lst) (p : Nat × List Nat) : Lst := if m p.1 ∈ P.map (fun r => m r.1) then P else P ++ [p]
def pick (m : Nat → Nat) (L : Lst) : Lst := L.foldl (pickStep m) []
theorem pick_snoc (m : Nat → Nat) (L : Lst) (p : Nat × List Nat) : pick m (L ++ [p]) = pickStep m (pick m L) p := by unfold pick; rw [List.foldl_append]; rfl
theorem pick_sub (m : Nat → Nat) (L : Lst) : (pick m L).Sublist L := by
  induction L using snoc_ind with
  | h0 => exact List.Sublist.refl _
  | hs L p ih =>
    rw [pick_snoc]; unfold pickStep
    by_cases h : m p.1 ∈ (pick m L).map fun r => m r.1
    · rw [if_pos h]; exact ih.trans (List.sublist_append_left _ _)
    · rw [if_neg h]; exact ih.append (List.Sublist.refl _)
theorem pick_nd (m : Nat → Nat) (L : Lst) : ((pick m L).map fun r => m r.1).Nodup := by
  induction L using snoc_ind with
  | h0 => simp [pick]
  | hs L p ih =>
    rw [pick_snoc]; unfold pickStep
    by_cases h : m p.1 ∈ (pick m L).map fun r => m r.1
    · rw [if_pos h]; exact ih
    · rw [if_neg h, List.map_append, List.nodup_append]
      refine ⟨ih, by simp, fun a ha b hb e => ?_⟩
      simp at hb
      subst e; subst hb
      exact h ha
theorem pick_cover (m : Nat → Nat) (L : Lst) : L.Pairwise (fun p q => num p.2 < num q.2) → ∀ p ∈ L, ∃ r ∈ pick m L, m r.1 = m p.1 ∧ num r.2 ≤ num p.2 := by
  induction L using snoc_ind with
  | h0 => intro _ p hp; simp at hp
  | hs L q ih =>
    intro hpw p hp
    rw [List.pairwise_append] at hpw
    have grow : ∀ r ∈ pick m L, r ∈ pick m (L ++ [q]) := by
      intro r hr
      rw [pick_snoc]; unfold pickStep
      by_cases h : m q.1 ∈ (pick m L).map fun r => m r.1
      · rw [if_pos h]; exact hr
      · rw [if_neg h]; exact List.mem_append_left _ hr
    rcases List.mem_append.mp hp with hp | hp
    · obtain ⟨r, h1, h2, h3⟩ := ih hpw.1 p hp
      exact ⟨r, grow r h1, h2, h3⟩
    · simp at hp
      subst hp
      by_cases h : m p.1 ∈ (pick m L).map fun r => m r.1
      · obtain ⟨r, h1, h2⟩ := List.mem_map.mp h
        exact ⟨r, grow r h1, h2, Nat.le_of_lt (hpw.2.2 r ((pick_sub m L).mem h1) p (by simp))⟩
      · refine ⟨p, ?_, rfl, Nat.le_refl _⟩
        rw [pick_snoc]; unfold pickStep
        rw [if_neg h]; simp
theorem pick_head (m : Nat → Nat) (p : Nat × List Nat) (L : Lst) : (pick m (p :: L))[0]? = some p := by
  have h : ∀ (L : Lst) (P : Lst), ∃ M, L.foldl (pickStep m) P = P ++ M := by
    intro L
    induction L with
    | nil => intro P; exact ⟨[], by simp⟩
    | cons a L ih =>
      intro P
      rw [List.foldl_cons]
      obtain ⟨M, e⟩ := ih (pickStep m P a)
      rw [e]
      unfold pickStep
      by_cases h : m a.1 ∈ P.map fun r => m r.1
      · rw [if_pos h]; exact ⟨M, rfl⟩
      · rw [if_neg h]; exact ⟨[a] ++ M, by simp⟩
  unfold pick
  rw [List.foldl_cons]
  have e : pickStep m [] p = [p] := by unfold pickStep; rw [if_neg (by simp)]; rfl
  rw [e]
  obtain ⟨M, e2⟩ := h L [p]
  rw [e2]; rfl
theorem pick_picks {A : Aut} (ok : A.Ok) {f : List Nat} (C : ClsOk A f) : Picks A 0 (fun q => f.getD q 0) (pick (fun q => f.getD q 0) (A.bfs 0)) := by
  have I := bfs_all ok (s := 0) ok.n1
  have n0 : 0 < A.n := ok.n1
  have sub := pick_sub (fun q => f.getD q 0) (A.bfs 0)
  refine ⟨fun p hp => I.run p (sub.mem hp), fun p hp => I.over p (sub.mem hp), I.asc.sublist sub, ?_, pick_nd (fun q => f.getD q 0) _, fun w hw => ?_, ?_, fun u v c hu hv hc e => ?_, fun u v hu hv e => ?_⟩
  · cases hL : A.bfs 0 with
    | nil => have := I.start; rw [hL] at this; cases this
    | cons p L =>
      have := I.start
      rw [hL] at this
      rw [pick_head, ← this]; rfl
  · obtain ⟨w', h1, h2⟩ := I.least w hw
    obtain ⟨r, h3, h4, h5⟩ := pick_cover (fun q => f.getD q 0) (A.bfs 0) I.asc _ h1
    exact ⟨r, h3, h4, by simp only at h5; omega⟩
  · have := sub.length_le
    have := bfsAt_len ok n0 A.n
    have := ok.n60
    unfold Aut.bfs at *
    omega
  · show f.getD (A.run 0 (u ++ [c])) 0 = f.getD (A.run 0 (v ++ [c])) 0
    rw [run_snoc, run_snoc]
    exact (C.iff _ _ (mv_lt ok hc (run_lt ok hu n0)) (mv_lt ok hc (run_lt ok hv n0))).mpr (((C.iff _ _ (run_lt ok hu n0) (run_lt ok hv n0)).mp e).mv hc)
  · exact ((C.iff _ _ (run_lt ok hu n0) (run_lt ok hv n0)).mp e).acc
theorem pick_least {A : Aut} (ok : A.Ok) {f : List Nat} (C : ClsOk A f) :
    IsLeast A.ls (fun w => A.acc (A.run 0 w)) (relab A (fun q => f.getD q 0) (pick (fun q => f.getD q 0) (A.bfs 0))) ((pick (fun q => f.getD q 0) (A.bfs 0)).map (·.2)) :=
  relab_least ok (pick_picks ok C) fun u v hu hv h => (C.iff _ _ (run_lt ok hu ok.n1) (run_lt ok hv ok.n1)).mpr h

/-! ### the opposite answers -/
def compl (A : Aut) : Aut := { A with yes := (List.range A.n).filter fun q => !A.acc q }
theorem compl_acc {A : Aut} {q : Nat} (h : q < A.n) : (compl A).acc q = !A.acc q := by
  unfold compl Aut.acc
  simp only
  by_cases hq : q ∈ A.yes
  · rw [decide_eq_true hq]
    refine decide_eq_false fun hm => ?_
    have := (List.mem_filter.mp hm).2
    rw [decide_eq_true hq] at this
    cases this
  · rw [decide_eq_false hq]
    exact decide_eq_true (List.mem_filter.mpr ⟨List.mem_range.mpr h, by rw [decide_eq_false hq]; rfl⟩)
theorem compl_ok {A : Aut} (ok : A.Ok) : (compl A).Ok :=
  ⟨ok.l1, ok.l3, ok.asc, ok.cod, ok.rl, ok.rn, ok.rb, ok.n1, ok.n60, List.Pairwise.filter _ List.pairwise_lt_range, fun y hy => List.mem_range.mp (List.mem_filter.mp hy).1⟩
theorem IsLeast.congr {ls : List Nat} {ac ac' : List Nat → Bool} {B : Aut} {T : List (List Nat)} (h : IsLeast ls ac B T) (e : ∀ w, Over ls w → ac w = ac' w) : IsLeast ls ac' B T :=
  ⟨h.ok, h.ls_, h.len, h.run, h.least, h.asc, fun w hw => (h.ans w hw).trans (e w hw), h.red⟩
theorem IsLeast.compl {ls : List Nat} {ac : List Nat → Bool} {B : Aut} {T : List (List Nat)} (h : IsLeast ls ac B T) : IsLeast ls (fun w => !ac w) (compl B) T := by
  refine ⟨compl_ok h.ok, h.ls_, h.len, h.run, h.least, h.asc, fun w hw => ?_, fun i j hi hj hal => h.red i j hi hj fun w hw => ?_⟩
  · have hl : B.run 0 w < B.n := run_lt h.ok (by rw [h.ls_]; exact hw) h.ok.n1
    have e : (K29.compl B).run 0 w = B.run 0 w := rfl
    rw [e, compl_acc hl, h.ans w hw]
  · have := hal w hw
    have e1 : (K29.compl B).run i w = B.run i w := rfl
    have e2 : (K29.compl B).run j w = B.run j w := rfl
    rw [e1, e2, compl_acc (run_lt h.ok hw hi), compl_acc (run_lt h.ok hw hj)] at this
    exact Bool.not_inj this

/-- the least reader with its texts of a reader: it is one, and there is one -/
def LeastOf (A : Aut) (B : Aut) (T : List (List Nat)) : Prop := IsLeast A.ls (fun w => A.acc (A.run 0 w)) B T
theorem LeastOf.one {A B B' : Aut} {T T' : List (List Nat)} (h : LeastOf A B T) (h' : LeastOf A B' T') : B = B' ∧ T = T' := least_one h h'
theorem LeastOf.compl {A B B' : Aut} {T T' : List (List Nat)} (ok : A.Ok) (h : LeastOf A B T) (h' : LeastOf (compl A) B' T') : B' = K29.compl B ∧ T' = T := by
  refine least_one h' (IsLeast.congr (IsLeast.compl h) fun w hw => ?_)
  have e : (K29.compl A).run 0 w = A.run 0 w := rfl
  rw [e, compl_acc (run_lt ok hw ok.n1)]
theorem LeastOf.again {A B B' : Aut} {T T' : List (List Nat)} (h : LeastOf A B T) (h' : LeastOf B B' T') : B' = B ∧ T' = T := by
  have h2 : IsLeast A.ls (fun w => A.acc (A.run 0 w)) B' T' := by
    have e := h.ls_
    unfold LeastOf at h'
    rw [e] at h'
    exact IsLeast.congr h' fun w hw => h.ans w hw
  obtain ⟨e1, e2⟩ := least_one h h2
  exact ⟨e1.symm, e2.symm⟩

/-! ### merges -/
def mergeJ (B : Aut) (T : List (List Nat)) (c i : Nat) : Option (Nat × List Nat × List Nat) :=
  ((List.range' (i + 1) (B.n - (i + 1))).filter fun j => decide (B.mv c j = B.mv c i)).head?.map fun j => (c, T.getD i [], T.getD j [])
def mergeI (B : Aut) (T : List (List Nat)) (c : Nat) : Option (Nat × List Nat × List Nat) := (List.range B.n).findSome? (mergeJ B T c)
def mergeOf (B : Aut) (T : List (List Nat)) : Option (Nat × List Nat × List Nat) := B.ls.findSome? (mergeI B T)
/-- whether a letter leads the states of two texts, which differ, to one -/
def isM (B : Aut) (c : Nat) (u v : List Nat) : Bool := decide (B.run 0 u ≠ B.run 0 v) && decide (B.mv c (B.run 0 u) = B.mv c (B.run 0 v))
theorem merge_mem {B : Aut} {T : List (List Nat)} {c : Nat} {u v : List Nat} (h : mergeOf B T = some (c, u, v)) : c ∈ B.ls ∧ ∃ i j, i < j ∧ j < B.n ∧ B.mv c j = B.mv c i ∧ u = T.getD i [] ∧ v = T.getD j [] := by
  unfold mergeOf at h
  obtain ⟨c', h1, h2⟩ := List.exists_of_findSome?_eq_some h
  unfold mergeI at h2
  obtain ⟨i, h3, h4⟩ := List.exists_of_findSome?_eq_some h2
  unfold mergeJ at h4
  cases e : ((List.range' (i + 1) (B.n - (i + 1))).filter fun j => decide (B.mv c' j = B.mv c' i)).head? with
  | none => rw [e] at h4; cases h4
  | some j =>
    rw [e] at h4
    have h5 : (c', T.getD i [], T.getD j []) = (c, u, v) := Option.some.inj h4
    obtain ⟨rfl, h6⟩ := Prod.mk.inj h5
    obtain ⟨rfl, rfl⟩ := Prod.mk.inj h6
    have h7 := List.mem_filter.mp (List.mem_of_head? e)
    have h8 := List.mem_range'_1.mp h7.1
    exact ⟨h1, i, j, by omega, by omega, of_decide_eq_true h7.2, rfl, rfl⟩
theorem merge_isM {ls : List Nat} {ac : List Nat → Bool} {B : Aut} {T : List (List Nat)} (h : IsLeast ls ac B T) {c : Nat} {u v : List Nat} (e : mergeOf B T = some (c, u, v)) : isM B c u v = true ∧ Over ls u ∧ Over ls v ∧ u ∈ T ∧ v ∈ T := by
  obtain ⟨hc, i, j, hij, hj, em, rfl, rfl⟩ := merge_mem e
  have hi' : i < T.length := by rw [h.len]; omega
  have hj' : j < T.length := by rw [h.len]; omega
  have e1 : T[i]? = some (T.getD i []) := by rw [List.getD_eq_getElem?_getD, List.getElem?_eq_getElem hi']; rfl
  have e2 : T[j]? = some (T.getD j []) := by rw [List.getD_eq_getElem?_getD, List.getElem?_eq_getElem hj']; rfl
  obtain ⟨r1, o1⟩ := h.run _ _ e1
  obtain ⟨r2, o2⟩ := h.run _ _ e2
  refine ⟨?_, o1, o2, List.mem_of_getElem? e1, List.mem_of_getElem? e2⟩
  unfold isM
  rw [r1, r2, decide_eq_true (show i ≠ j by omega), em]
  simp
/-- texts of the least reader are short -/
theorem push_short {A : Aut} {q : Nat} {w : List Nat} {m : Nat} (hw : w.length ≤ m) : ∀ (cs : List Nat) (L : Lst), (∀ p ∈ L, p.2.length ≤ m + 1) → ∀ p ∈ cs.foldl (A.push q w) L, p.2.length ≤ m + 1
  | [], _, h => h
  | c :: cs, L, h => by
    rw [List.foldl_cons]
    refine push_short hw cs _ fun p hp => ?_
    unfold Aut.push at hp
    by_cases e : A.mv c q ∈ L.map (·.1)
    · rw [if_pos e] at hp; exact h p hp
    · rw [if_neg e] at hp
      rcases List.mem_append.mp hp with hp | hp
      · exact h p hp
      · simp at hp; subst hp; simp; omega
theorem bfsAt_short {A : Aut} {s : Nat} : ∀ k, ∀ p ∈ A.bfsAt s k, p.2.length ≤ k
  | 0, p, hp => by simp [Aut.bfsAt] at hp; subst hp; simp
  | k + 1, p, hp => by
    have ih := bfsAt_short (A := A) (s := s) k
    change p ∈ A.proc (A.bfsAt s k) k at hp
    unfold Aut.proc at hp
    cases e : (A.bfsAt s k)[k]? with
    | none => rw [e] at hp; exact Nat.le_succ_of_le (ih p hp)
    | some r =>
      rw [e] at hp
      exact push_short (ih r (List.mem_of_getElem? e)) _ _ (fun p hp => Nat.le_succ_of_le (ih p hp)) p hp
theorem IsLeast.short {ls : List Nat} {ac : List Nat → Bool} {B : Aut} {T : List (List Nat)} (h : IsLeast ls ac B T) {t : List Nat} (ht : t ∈ T) : t.length ≤ 60 := by
  rw [← h.bfs] at ht
  obtain ⟨p, hp, rfl⟩ := List.mem_map.mp ht
  exact Nat.le_trans (bfsAt_short _ p hp) h.ok.n60
end K29
/-! What an expression comes to, as data, while nothing but the cups changes. -/
namespace K29
open PySem L2

/-- a cup: a list of three ints -/
def IsCup (H : Hp) (c : Addr) : Prop := ∃ i j k : Int, H c = some (.lst [.int i, .int j, .int k])
def Wm (m : List Addr) (H : Hp) : Prop := ∀ c ∈ m, IsCup H c
/-- what stood stands; what is at m may have changed -/
def Sm (m : List Addr) (H H' : Hp) : Prop := ∀ b o, b ∉ m → H b = some o → H' b = some o
theorem Sm.refl (m : List Addr) (H : Hp) : Sm m H H := fun _ _ _ h => h
theorem Sm.trans {m : List Addr} {H H1 H2 : Hp} (a : Sm m H H1) (b : Sm m H1 H2) : Sm m H H2 := fun x o hm h => b x o hm (a x o hm h)
theorem Sm.new {m : List Addr} {H : Hp} {p : Addr} {o : HO} (h : H p = none) : Sm m H (upd H p o) := fun a u _ e => by
  rw [upd_ne (ne_of_none e h)]
  exact e
theorem Sm.mut {m : List Addr} {H H1 : Hp} {p : Addr} {o : HO} (s : Sm m H H1) (h : H p = none) : Sm m H (upd H1 p o) := fun a u hm e => by
  rw [upd_ne (ne_of_none e h)]
  exact s a u hm e
theorem Sm.weak {m : List Addr} {H H' : Hp} (s : Sm [] H H') : Sm m H H' := fun b o _ h => s b o (by simp) h
theorem Sm.same {H H' : Hp} (s : Sm [] H H') : Same H H' := fun b o h => s b o (by simp) h
theorem Sm.of {m : List Addr} {H H' : Hp} (s : Same H H') : Sm m H H' := fun b o _ h => s b o h
theorem Wm.nil {H : Hp} : Wm [] H := fun _ h => by simp at h
theorem Wm.new {m : List Addr} {H : Hp} {p : Addr} {o : HO} (w : Wm m H) (h : H p = none) : Wm m (upd H p o) := fun c hc => by
  obtain ⟨i, j, k, e⟩ := w c hc
  exact ⟨i, j, k, by rw [upd_ne (ne_of_none e h)]; exact e⟩
theorem Wm.same {m : List Addr} {H H' : Hp} (w : Wm m H) (s : Same H H') : Wm m H' := fun c hc => by
  obtain ⟨i, j, k, e⟩ := w c hc
  exact ⟨i, j, k, s _ _ e⟩
theorem Sm.at {m : List Addr} {H H' : Hp} {b : Addr} {o : HO} (s : Sm m H H') (w : Wm m H) (h : H b = some o) (hn : ∀ xs, o ≠ .lst xs) : H' b = some o :=
  s b o (fun hm => by
    obtain ⟨i, j, k, e⟩ := w b hm
    rw [h] at e
    exact hn _ (Option.some.inj e)) h
theorem Sm.free {m : List Addr} {H H' : Hp} {b : Addr} (s : Sm m H H') (w : Wm m H) (w' : Wm m H') (h : H' b = none) : H b = none := by
  cases q : H b with
  | none => rfl
  | some o =>
    by_cases hm : b ∈ m
    · obtain ⟨i, j, k, e⟩ := w' b hm
      rw [e] at h; cases h
    · rw [s b o hm q] at h; cases h
theorem Sm.rd {m : List Addr} {H H' : Hp} {b : Addr} {u : HO} (s : Sm m H H') (w : Wm m H) (h : Rd H b u) (hn : ∀ xs, u ≠ .lst xs) : Rd H' b u := by
  rcases h with h | ⟨o, h⟩
  · exact .inl (s.at w h hn)
  · exact .inr ⟨o, s.at w h fun _ e => by cases e⟩
theorem Sm.tup {K : PySem.W.Frag} {m : List Addr} {H H' : Hp} {a : Addr} {xs : List V} (s : Sm m H H') (w : Wm m H) (h : SqT K H a xs) : SqT K H' a xs := by
  rcases h with h | h
  · exact .inl (s.rd w h fun _ e => by cases e)
  · exact .inr h
theorem Sm.lst {K : PySem.W.Frag} {m : List Addr} {H H' : Hp} {a : Addr} {xs : List V} (s : Sm m H H') (ha : a ∉ m) (h : SqL K H a xs) : SqL K H' a xs := by
  rcases h with (h | ⟨o, h⟩) | h
  · exact .inl (.inl (s _ _ ha h))
  · exact .inl (.inr ⟨o, s _ _ ha h⟩)
  · exact .inr h

/-! ### data -/
mutual
def noL : PyData → Bool
  | .none => true
  | .bool _ => true
  | .int _ => true
  | .str _ => true
  | .tuple ds => noLs ds
  | .list _ => false
  | .dict _ => false
def noLs : List PyData → Bool
  | [] => true
  | d :: ds => noL d && noLs ds
end
theorem noLs_iff {ds : List PyData} : noLs ds = true ↔ ∀ d ∈ ds, noL d = true := by
  induction ds with
  | nil => simp [noLs]
  | cons d ds ih => simp [noLs, ih]
theorem noLs_map {α : Type} {f : α → PyData} {l : List α} (h : ∀ x ∈ l, noL (f x) = true) : noLs (l.map f) = true := noLs_iff.mpr fun d hd => by
  obtain ⟨x, hx, rfl⟩ := List.mem_map.mp hd
  exact h x hx

section
variable {K : PySem.W.Frag} {H H' : Hp}
mutual
theorem dp_keep (hT : ∀ b xs, SqT K H b xs → SqT K H' b xs) : ∀ (d : PyData) (v : V), noL d = true → Dp K H v d → Dp K H' v d
  | .none, _, _, h => by cases h; exact .non
  | .bool b, _, _, h => by cases h; exact .bl _
  | .int i, _, _, h => by cases h; exact .int _
  | .str x, _, _, h => by cases h; exact .str _
  | .tuple ds, _, n, h => by
    cases h with
    | tup h1 h2 => exact .tup (hT _ _ h1) (dp_keepAll hT ds _ (by simpa [noL] using n) h2)
  | .list ds, _, n, h => by simp [noL] at n
  | .dict ds, _, n, h => by simp [noL] at n
theorem dp_keepAll (hT : ∀ b xs, SqT K H b xs → SqT K H' b xs) : ∀ (ds : List PyData) (vs : List V), noLs ds = true → DpAll K H vs ds → DpAll K H' vs ds
  | [], _, _, h => by cases h; exact .nil
  | d :: ds, _, n, h => by
    have n' : noL d = true ∧ noLs ds = true := by simpa [noLs] using n
    cases h with
    | cons h1 h2 => exact .cons (dp_keep hT d _ n'.1 h1) (dp_keepAll hT ds _ n'.2 h2)
end
mutual
theorem dp_same (hT : ∀ b xs, SqT K H b xs → SqT K H' b xs) (hL : ∀ b xs, SqL K H b xs → SqL K H' b xs) : ∀ (d : PyData) (v : V), Dp K H v d → Dp K H' v d
  | .none, _, h => by cases h; exact .non
  | .bool b, _, h => by cases h; exact .bl _
  | .int i, _, h => by cases h; exact .int _
  | .str x, _, h => by cases h; exact .str _
  | .tuple ds, _, h => by
    cases h with
    | tup h1 h2 => exact .tup (hT _ _ h1) (dp_sameAll hT hL ds _ h2)
  | .list ds, _, h => by
    cases h with
    | lst h1 h2 => exact .lst (hL _ _ h1) (dp_sameAll hT hL ds _ h2)
  | .dict ds, _, h => by cases h
theorem dp_sameAll (hT : ∀ b xs, SqT K H b xs → SqT K H' b xs) (hL : ∀ b xs, SqL K H b xs → SqL K H' b xs) : ∀ (ds : List PyData) (vs : List V), DpAll K H vs ds → DpAll K H' vs ds
  | [], _, h => by cases h; exact .nil
  | d :: ds, _, h => by
    cases h with
    | cons h1 h2 => exact .cons (dp_same hT hL d _ h1) (dp_sameAll hT hL ds _ h2)
end
end
/-- data that stands while the cups change -/
def okD (m : List Addr) (d : PyData) : Prop := m = [] ∨ noL d = true
def okDs (m : List Addr) (ds : List PyData) : Prop := m = [] ∨ noLs ds = true
section
variable {K : PySem.W.Frag} {m : List Addr} {H H1 H2 : Hp} {v : V} {vs : List V} {d : PyData} {ds : List PyData}
theorem dp_sm (s : Sm m H H1) (w : Wm m H) (ok : okD m d) (h : Dp K H v d) : Dp K H1 v d := by
  rcases ok with rfl | n
  · exact dp_same (fun _ _ q => s.tup w q) (fun _ _ q => s.lst (by simp) q) d v h
  · exact dp_keep (fun _ _ q => s.tup w q) d v n h
theorem dps_sm (s : Sm m H H1) (w : Wm m H) (ok : okDs m ds) (h : DpAll K H vs ds) : DpAll K H1 vs ds := by
  rcases ok with rfl | n
  · exact dp_sameAll (fun _ _ q => s.tup w q) (fun _ _ q => s.lst (by simp) q) ds vs h
  · exact dp_keepAll (fun _ _ q => s.tup w q) ds vs n h
theorem dp_sm0 (s : Sm [] H H1) (h : Dp K H v d) : Dp K H1 v d := dp_sm s Wm.nil (.inl rfl) h
theorem dps_sm0 (s : Sm [] H H1) (h : DpAll K H vs ds) : DpAll K H1 vs ds := dps_sm s Wm.nil (.inl rfl) h
/-- a list changes: data without lists stand -/
theorem dp_upd {l : Addr} {xs : List V} {o : HO} (n : noL d = true) (hl : H l = some (.lst xs)) (h : Dp K H v d) : Dp K (upd H l o) v d := by
  refine dp_keep (fun b ys q => ?_) d v n h
  rcases q with (q | ⟨ob, q⟩) | q
  · exact .inl (.inl (by rw [upd_ne (ne_of q hl (by intro e; cases e))]; exact q))
  · exact .inl (.inr ⟨ob, by rw [upd_ne (ne_of q hl (by intro e; cases e))]; exact q⟩)
  · exact .inr q
theorem dps_upd {l : Addr} {xs : List V} {o : HO} (n : noLs ds = true) (hl : H l = some (.lst xs)) (h : DpAll K H vs ds) : DpAll K (upd H l o) vs ds := by
  refine dp_keepAll (fun b ys q => ?_) ds vs n h
  rcases q with (q | ⟨ob, q⟩) | q
  · exact .inl (.inl (by rw [upd_ne (ne_of q hl (by intro e; cases e))]; exact q))
  · exact .inl (.inr ⟨ob, by rw [upd_ne (ne_of q hl (by intro e; cases e))]; exact q⟩)
  · exact .inr q
theorem dp_updK {l : Addr} {xs : List (Key × V)} {o : HO} (n : noL d = true) (hl : H l = some (.dK xs)) (h : Dp K H v d) : Dp K (upd H l o) v d := by
  refine dp_keep (fun b ys q => ?_) d v n h
  rcases q with (q | ⟨ob, q⟩) | q
  · exact .inl (.inl (by rw [upd_ne (ne_of q hl (by intro e; cases e))]; exact q))
  · exact .inl (.inr ⟨ob, by rw [upd_ne (ne_of q hl (by intro e; cases e))]; exact q⟩)
  · exact .inr q
theorem dps_updK {l : Addr} {xs : List (Key × V)} {o : HO} (n : noLs ds = true) (hl : H l = some (.dK xs)) (h : DpAll K H vs ds) : DpAll K (upd H l o) vs ds := by
  refine dp_keepAll (fun b ys q => ?_) ds vs n h
  rcases q with (q | ⟨ob, q⟩) | q
  · exact .inl (.inl (by rw [upd_ne (ne_of q hl (by intro e; cases e))]; exact q))
  · exact .inl (.inr ⟨ob, by rw [upd_ne (ne_of q hl (by intro e; cases e))]; exact q⟩)
  · exact .inr q
theorem dps_len : ∀ {vs : List V} {ds : List PyData}, DpAll K H vs ds → vs.length = ds.length
  | _, _, .nil => rfl
  | _, _, .cons _ h => by rw [List.length_cons, List.length_cons, dps_len h]
theorem dps_get : ∀ {vs : List V} {ds : List PyData} {i : Nat} {d : PyData}, DpAll K H vs ds → ds[i]? = some d → ∃ v, vs[i]? = some v ∧ Dp K H v d
  | _, _, _, _, .nil, e => by simp at e
  | _, _, 0, _, .cons h _, e => by
    have : _ = _ := Option.some.inj e
    subst this
    exact ⟨_, rfl, h⟩
  | _, _, i + 1, d, .cons _ t, e => by
    obtain ⟨v, h1, h2⟩ := dps_get (i := i) (d := d) t (by simpa using e)
    exact ⟨v, by simpa using h1, h2⟩
theorem dps_getV : ∀ {vs : List V} {ds : List PyData} {i : Nat} {v : V}, DpAll K H vs ds → vs[i]? = some v → ∃ d, ds[i]? = some d ∧ Dp K H v d
  | _, _, _, _, .nil, e => by simp at e
  | _, _, 0, _, .cons h _, e => by
    have : _ = _ := Option.some.inj e
    subst this
    exact ⟨_, rfl, h⟩
  | _, _, i + 1, v, .cons _ t, e => by
    obtain ⟨d, h1, h2⟩ := dps_getV (i := i) (v := v) t (by simpa using e)
    exact ⟨d, by simpa using h1, h2⟩
theorem dps_snoc : ∀ {vs : List V} {ds : List PyData} {v : V} {d : PyData}, DpAll K H vs ds → Dp K H v d → DpAll K H (vs ++ [v]) (ds ++ [d])
  | _, _, _, _, .nil, h => .cons h .nil
  | _, _, _, _, .cons h t, q => .cons h (dps_snoc t q)
theorem dps_append : ∀ {vs ws : List V} {ds es : List PyData}, DpAll K H vs ds → DpAll K H ws es → DpAll K H (vs ++ ws) (ds ++ es)
  | _, _, _, _, .nil, h => h
  | _, _, _, _, .cons h t, q => .cons h (dps_append t q)
theorem dps_ints : ∀ (ns : List Int), DpAll K H (ns.map V.int) (ns.map PyData.int)
  | [] => .nil
  | n :: ns => .cons (.int n) (dps_ints ns)
theorem dps_ints_inv : ∀ {vs : List V} (ns : List Int), DpAll K H vs (ns.map PyData.int) → vs = ns.map V.int
  | _, [], h => by cases h; rfl
  | _, n :: ns, h => by
    cases h with
    | cons h1 h2 => cases h1; rw [dps_ints_inv ns h2]; rfl
theorem dps_bools_inv : ∀ {vs : List V} (ns : List Bool), DpAll K H vs (ns.map PyData.bool) → vs = ns.map V.bl
  | _, [], h => by cases h; rfl
  | _, n :: ns, h => by
    cases h with
    | cons h1 h2 => cases h1; rw [dps_bools_inv ns h2]; rfl
theorem dps_strs_inv : ∀ {vs : List V} (ns : List Str), DpAll K H vs (ns.map PyData.str) → vs = ns.map V.str
  | _, [], h => by cases h; rfl
  | _, n :: ns, h => by
    cases h with
    | cons h1 h2 => cases h1; rw [dps_strs_inv ns h2]; rfl
theorem dps_strs : ∀ (ns : List Str), DpAll K H (ns.map V.str) (ns.map PyData.str)
  | [] => .nil
  | n :: ns => .cons (.str n) (dps_strs ns)
theorem dp_int {i : Int} (h : Dp K H v (.int i)) : v = .int i := by cases h; rfl
theorem dp_bl {b : Bool} (h : Dp K H v (.bool b)) : v = .bl b := by cases h; rfl
theorem dp_str {x : Str} (h : Dp K H v (.str x)) : v = .str x := by cases h; rfl
theorem dp_lst (h : Dp K H v (.list ds)) : ∃ a xs, v = .ref a ∧ SqL K H a xs ∧ DpAll K H xs ds := by cases h with | lst h1 h2 => exact ⟨_, _, rfl, h1, h2⟩
theorem dp_tup (h : Dp K H v (.tuple ds)) : ∃ a xs, v = .ref a ∧ SqT K H a xs ∧ DpAll K H xs ds := by cases h with | tup h1 h2 => exact ⟨_, _, rfl, h1, h2⟩
end

/-! ### what an expression comes to -/
def Gets (m : List Addr) (te : TE) (σ : L2.St) (H : Hp) (P : V → Hp → Prop) : Prop := ∀ H1, Sm m H H1 → Wm m H1 → ∀ Q : VK, (∀ v H2, Sm m H1 H2 → Wm m H2 → P v H2 → Q v H2) → te σ H1 Q
def GetsT (m : List Addr) (tt : TT) (σ : L2.St) (H : Hp) (b : Bool) : Prop := ∀ H1, Sm m H H1 → Wm m H1 → ∀ Q : Bool → Hp → Prop, (∀ H2, Sm m H1 H2 → Wm m H2 → Q b H2) → tt σ H1 Q
def GetsA (m : List Addr) (ta : TA) (σ : L2.St) (H : Hp) (P : List V → Hp → Prop) : Prop := ∀ H1, Sm m H H1 → Wm m H1 → ∀ Q : List V → Hp → Prop, (∀ vs H2, Sm m H1 H2 → Wm m H2 → P vs H2 → Q vs H2) → ta σ H1 Q
abbrev Gd (K : PySem.W.Frag) (m : List Addr) (te : TE) (σ : L2.St) (H : Hp) (d : PyData) : Prop := Gets m te σ H fun v H' => Dp K H' v d
abbrev Ga (K : PySem.W.Frag) (m : List Addr) (ta : TA) (σ : L2.St) (H : Hp) (ds : List PyData) : Prop := GetsA m ta σ H fun vs H' => DpAll K H' vs ds
/-- it comes to this very value -/
abbrev Gv (m : List Addr) (te : TE) (σ : L2.St) (H : Hp) (v : V) : Prop := Gets m te σ H fun x _ => x = v
/-- what a step on values does -/
abbrev Back (m : List Addr) (H : Hp) (Q : VK) (P : V → Hp → Prop) : Prop := ∀ v H2, Sm m H H2 → Wm m H2 → P v H2 → Q v H2

section
variable {K : PySem.W.Frag} {m : List Addr} {σ : L2.St} {H H' : Hp} {ta tb te : TE} {t u : TT} {x y z v : V} {r : R2} {d da db : PyData} {ds : List PyData} {P P' : V → Hp → Prop}
theorem Gets.mono (s : Sm m H H') (h : Gets m te σ H P) : Gets m te σ H' P := fun H1 a w Q q => h H1 (s.trans a) w Q q
theorem GetsT.mono {b : Bool} (s : Sm m H H') (h : GetsT m t σ H b) : GetsT m t σ H' b := fun H1 a w Q q => h H1 (s.trans a) w Q q
theorem Gets.imp (h : Gets m te σ H P) (f : ∀ v H1, Sm m H H1 → Wm m H1 → P v H1 → P' v H1) : Gets m te σ H P' := fun H1 a w Q q => h H1 a w Q fun v H2 s w2 p => q v H2 s w2 (f v H2 (a.trans s) w2 p)
/-- used at a statement -/
theorem Gets.go (h : Gets [] te σ H P) {Q : VK} (k : ∀ v H1, Sm [] H H1 → P v H1 → Q v H1) : te σ H Q := h H (Sm.refl _ _) Wm.nil Q fun v H1 s _ p => k v H1 s p
theorem Gets.goW (h : Gets m te σ H P) (w : Wm m H) {Q : VK} (k : ∀ v H1, Sm m H H1 → Wm m H1 → P v H1 → Q v H1) : te σ H Q := h H (Sm.refl _ _) w Q k
theorem gv_var {i : Nat} (h : σ[i]? = some (some v)) : Gv m (tVar i) σ H v := fun H1 _ w Q q => ⟨v, h, q v H1 (Sm.refl _ _) w rfl⟩
theorem gv_c : Gv m (tC v) σ H v := fun H1 _ w Q q => q v H1 (Sm.refl _ _) w rfl
theorem gd_of (h : Gv m te σ H v) (hd : ∀ H1, Sm m H H1 → Wm m H1 → Dp K H1 v d) : Gd K m te σ H d := h.imp fun x H1 s w e => by subst e; exact hd H1 s w
/-- a name that holds data -/
theorem gd_var {i : Nat} (h : σ[i]? = some (some v)) (w : Wm m H) (hd : Dp K H v d) (ok : okD m d := by first | exact Or.inl rfl | exact Or.inr rfl) : Gd K m (tVar i) σ H d := gd_of (gv_var h) fun H1 s _ => dp_sm s w ok hd
theorem gd_vi {i : Nat} {n : Int} (h : σ[i]? = some (some (.int n))) : Gd K m (tVar i) σ H (.int n) := gd_of (gv_var h) fun _ _ _ => .int n
theorem gd_vs {i : Nat} {n : Str} (h : σ[i]? = some (some (.str n))) : Gd K m (tVar i) σ H (.str n) := gd_of (gv_var h) fun _ _ _ => .str n
theorem gd_vb {i : Nat} {n : Bool} (h : σ[i]? = some (some (.bl n))) : Gd K m (tVar i) σ H (.bool n) := gd_of (gv_var h) fun _ _ _ => .bl n
theorem gd_i {n : Int} : Gd K m (tC (.int n)) σ H (.int n) := gd_of gv_c fun _ _ _ => .int n
theorem gd_s {n : Str} : Gd K m (tC (.str n)) σ H (.str n) := gd_of gv_c fun _ _ _ => .str n
theorem gd_b {n : Bool} : Gd K m (tC (.bl n)) σ H (.bool n) := gd_of gv_c fun _ _ _ => .bl n
theorem gd_n : Gd K m (tC .non) σ H .none := gd_of gv_c fun _ _ _ => .non
theorem gv_int {n : Int} (h : Gd K m te σ H (.int n)) : Gv m te σ H (.int n) := h.imp fun _ _ _ _ p => dp_int p
theorem gv_str {n : Str} (h : Gd K m te σ H (.str n)) : Gv m te σ H (.str n) := h.imp fun _ _ _ _ p => dp_str p
theorem gv_bl {n : Bool} (h : Gd K m te σ H (.bool n)) : Gv m te σ H (.bl n) := h.imp fun _ _ _ _ p => dp_bl p
theorem Gets.is (h : Gd K m te σ H d) {d' : PyData} (e : d = d') : Gd K m te σ H d' := e ▸ h

/-- an operation on two data -/
def Rd2 (K : PySem.W.Frag) (m : List Addr) (H : Hp) (r : R2) (da db d : PyData) : Prop := ∀ x y H1, Sm m H H1 → Wm m H1 → Dp K H1 x da → Dp K H1 y db → ∀ Q : VK, (∀ v H2, Sm m H1 H2 → Wm m H2 → Dp K H2 v d → Q v H2) → r x y H1 Q
theorem gd_op (ha : Gd K m ta σ H da) (hb : Gd K m tb σ H db) (hr : Rd2 K m H r da db d) (ok : okD m da := by first | exact Or.inl rfl | exact Or.inr rfl) : Gd K m (tOp r ta tb) σ H d := fun H1 s1 w1 Q q =>
  ha H1 s1 w1 _ fun x H2 s2 w2 p => hb H2 (s1.trans s2) w2 _ fun y H3 s3 w3 p' => hr x y H3 ((s1.trans s2).trans s3) w3 (dp_sm s3 w2 ok p) p' Q fun v H4 s4 w4 p4 => q v H4 ((s2.trans s3).trans s4) w4 p4
theorem rd_I0 {g : Int → Int → V} {i j : Int} (hd : ∀ H, Dp K H (g i j) d) : Rd2 K m H (rI0 g) (.int i) (.int j) d := fun x y H1 _ w hx hy Q q => by
  cases hx; cases hy
  exact ⟨i, j, rfl, rfl, q _ H1 (Sm.refl _ _) w (hd H1)⟩
theorem rd_I {C : Int → Int → Prop} {g : Int → Int → V} {i j : Int} (hc : C i j) (hd : ∀ H, Dp K H (g i j) d) : Rd2 K m H (rI C g) (.int i) (.int j) d := fun x y H1 _ w hx hy Q q => by
  cases hx; cases hy
  exact ⟨i, j, rfl, rfl, hc, q _ H1 (Sm.refl _ _) w (hd H1)⟩
theorem gd_add {i j : Int} (ha : Gd K m ta σ H (.int i)) (hb : Gd K m tb σ H (.int j)) : Gd K m (tOp (rI0 fun i j => .int (i + j)) ta tb) σ H (.int (i + j)) := gd_op ha hb (rd_I0 fun _ => .int _)
theorem gd_sub {i j : Int} (ha : Gd K m ta σ H (.int i)) (hb : Gd K m tb σ H (.int j)) : Gd K m (tOp (rI0 fun i j => .int (i - j)) ta tb) σ H (.int (i - j)) := gd_op ha hb (rd_I0 fun _ => .int _)
theorem gd_lt {i j : Int} (ha : Gd K m ta σ H (.int i)) (hb : Gd K m tb σ H (.int j)) : Gd K m (tOp (rI0 fun i j => .bl (decide (i < j))) ta tb) σ H (.bool (decide (i < j))) := gd_op ha hb (rd_I0 fun _ => .bl _)
theorem gd_le {i j : Int} (ha : Gd K m ta σ H (.int i)) (hb : Gd K m tb σ H (.int j)) : Gd K m (tOp (rI0 fun i j => .bl (decide (i ≤ j))) ta tb) σ H (.bool (decide (i ≤ j))) := gd_op ha hb (rd_I0 fun _ => .bl _)
theorem gd_gt {i j : Int} (ha : Gd K m ta σ H (.int i)) (hb : Gd K m tb σ H (.int j)) : Gd K m (tOp (rI0 fun i j => .bl (decide (j < i))) ta tb) σ H (.bool (decide (j < i))) := gd_op ha hb (rd_I0 fun _ => .bl _)
theorem rd_eqI {i j : Int} : Rd2 K m H rEq (.int i) (.int j) (.bool (decide (i = j))) := fun x y H1 _ w hx hy Q q => by
  cases hx; cases hy
  refine ⟨rfl, q _ H1 (Sm.refl _ _) w ?_⟩
  rw [show decide (V.int i = V.int j) = decide (i = j) by simp]
  exact .bl _
theorem rd_neI {i j : Int} : Rd2 K m H rNe (.int i) (.int j) (.bool (!decide (i = j))) := fun x y H1 _ w hx hy Q q => by
  cases hx; cases hy
  refine ⟨rfl, q _ H1 (Sm.refl _ _) w ?_⟩
  rw [show decide (V.int i = V.int j) = decide (i = j) by simp]
  exact .bl _
theorem rd_eqD : Rd2 K m H (rEqD K) da db (.bool (PyData.eqv da db)) → True := fun _ => trivial
theorem rd_ixL {n : Nat} (hd : ds[n]? = some d) : Rd2 K m H (rIxL K) (.list ds) (.int n) d := fun x y H1 _ w hx hy Q q => by
  obtain ⟨a, xs, rfl, h1, h2⟩ := dp_lst hx
  cases hy
  obtain ⟨v, h3, h4⟩ := dps_get h2 hd
  exact ⟨a, xs, n, v, rfl, rfl, h1, atI_nat h3, q _ H1 (Sm.refl _ _) w h4⟩
theorem rd_ixT {n : Nat} (hd : ds[n]? = some d) : Rd2 K m H (rIxT K) (.tuple ds) (.int n) d := fun x y H1 _ w hx hy Q q => by
  obtain ⟨a, xs, rfl, h1, h2⟩ := dp_tup hx
  cases hy
  obtain ⟨v, h3, h4⟩ := dps_get h2 hd
  exact ⟨a, xs, n, v, rfl, rfl, h1, atI_nat h3, q _ H1 (Sm.refl _ _) w h4⟩
theorem gd_ixL {n : Nat} (ha : Gd K m ta σ H (.list ds)) (hb : Gd K m tb σ H (.int n)) (hd : ds[n]? = some d) (ok : m = [] := by rfl) : Gd K m (tOp (rIxL K) ta tb) σ H d := gd_op ha hb (rd_ixL hd) (.inl ok)
theorem gd_ixT {n : Nat} (ha : Gd K m ta σ H (.tuple ds)) (hb : Gd K m tb σ H (.int n)) (hd : ds[n]? = some d) (ok : okD m (.tuple ds) := by first | exact Or.inl rfl | exact Or.inr rfl) : Gd K m (tOp (rIxT K) ta tb) σ H d := gd_op ha hb (rd_ixT hd) ok

/-! arguments -/
theorem ga_nil : Ga K m tNil σ H [] := fun H1 _ w Q q => q [] H1 (Sm.refl _ _) w .nil
theorem ga_cons {tr : TA} (ha : Gd K m ta σ H d) (hr : Ga K m tr σ H ds) (ok : okD m d := by first | exact Or.inl rfl | exact Or.inr rfl) : Ga K m (tCons ta tr) σ H (d :: ds) := fun H1 s1 w1 Q q =>
  ha H1 s1 w1 _ fun x H2 s2 w2 p => hr H2 (s1.trans s2) w2 _ fun xs H3 s3 w3 p' => q (x :: xs) H3 (s2.trans s3) w3 (.cons (dp_sm s3 w2 ok p) p')
/-- any arguments, each told by a word that lasts -/
theorem gA_nil : GetsA m tNil σ H (fun vs _ => vs = []) := fun H1 _ w Q q => q [] H1 (Sm.refl _ _) w rfl
theorem gA_cons {tr : TA} {PA : List V → Hp → Prop} (ha : Gets m ta σ H P) (st : ∀ v H1 H2, Sm m H1 H2 → Wm m H1 → P v H1 → P v H2) (hr : GetsA m tr σ H PA) : GetsA m (tCons ta tr) σ H (fun vs H' => ∃ v r, vs = v :: r ∧ P v H' ∧ PA r H') := fun H1 s1 w1 Q q =>
  ha H1 s1 w1 _ fun x H2 s2 w2 p => hr H2 (s1.trans s2) w2 _ fun xs H3 s3 w3 p' => q (x :: xs) H3 (s2.trans s3) w3 ⟨x, xs, rfl, st x H2 H3 s3 w2 p, p'⟩
theorem gA_v {tr : TA} {vs : List V} (ha : Gv m ta σ H v) (hr : GetsA m tr σ H (fun us _ => us = vs)) : GetsA m (tCons ta tr) σ H (fun us _ => us = v :: vs) := fun H1 s1 w1 Q q =>
  ha H1 s1 w1 _ fun x H2 s2 w2 p => hr H2 (s1.trans s2) w2 _ fun xs H3 s3 w3 p' => q (x :: xs) H3 (s2.trans s3) w3 (by rw [p, p'])
theorem gd_tup {t : TA} (h : Ga K m t σ H ds) (hl : ds.length ≤ 100000) (n : okDs m ds := by first | exact Or.inl rfl | exact Or.inr rfl) : Gd K m (tTup t) σ H (.tuple ds) := fun H1 s1 w1 Q q =>
  h H1 s1 w1 _ fun xs H2 s2 w2 p => ⟨Nat.le_trans (by rw [dps_len p]; exact hl) (by decide), fun a ha => q _ _ (s2.trans (Sm.new ha)) (w2.new ha) (.tup (SqT.of upd_same) (dps_sm (Sm.new ha) w2 n p))⟩
theorem gd_lst {t : TA} (h : Ga K m t σ H ds) (hl : ds.length ≤ 100000) (n : okDs m ds := by first | exact Or.inl rfl | exact Or.inr rfl) : Gd K m (tLst t) σ H (.list ds) := fun H1 s1 w1 Q q =>
  h H1 s1 w1 _ fun xs H2 s2 w2 p => ⟨Nat.le_trans (by rw [dps_len p]; exact hl) (by decide), fun a ha => q _ _ (s2.trans (Sm.new ha)) (w2.new ha) (.lst (SqL.of upd_same) (dps_sm (Sm.new ha) w2 n p))⟩
/-- a builtin on values -/
theorem gd_cb {r : List V → Hp → VK → Prop} {t : TA} {PA : List V → Hp → Prop} (h : GetsA m t σ H PA) (hr : ∀ vs H1, Sm m H H1 → Wm m H1 → PA vs H1 → ∀ Q : VK, (∀ v H2, Sm m H1 H2 → Wm m H2 → P v H2 → Q v H2) → r vs H1 Q) : Gets m (tCB r t) σ H P := fun H1 s1 w1 Q q =>
  h H1 s1 w1 _ fun vs H2 s2 w2 p => hr vs H2 (s1.trans s2) w2 p Q fun v H3 s3 w3 p' => q v H3 (s2.trans s3) w3 p'
theorem gd_call {sp : Sp} {dvs : List V} {E : XK} {t : TA} {PA : List V → Hp → Prop} (h : GetsA m t σ H PA) (hr : ∀ vs H1, Sm m H H1 → Wm m H1 → PA vs H1 → ∀ Q : VK, (∀ v H2, Sm m H1 H2 → Wm m H2 → P v H2 → Q v H2) → sp (vs ++ dvs) H1 Q E) : Gets m (tCall sp dvs E t) σ H P := fun H1 s1 w1 Q q =>
  h H1 s1 w1 _ fun vs H2 s2 w2 p => hr vs H2 (s1.trans s2) w2 p Q fun v H3 s3 w3 p' => q v H3 (s2.trans s3) w3 p'
theorem gd_lenS {t : TA} {n : Nat} (h : Ga K m t σ H [.list ds]) (hn : n = ds.length) : Gd K m (tCB (fun xs H Q => ∃ p ys, xs = [V.ref p] ∧ (SqL K H p ys ∨ SqT K H p ys) ∧ Q (.int ys.length) H) t) σ H (.int n) := gd_cb h fun vs H1 _ w1 p Q q => by
  cases p with
  | cons p1 p2 =>
    cases p2
    obtain ⟨a, xs, rfl, h1, h2⟩ := dp_lst p1
    refine ⟨a, xs, rfl, .inl h1, q _ H1 (Sm.refl _ _) w1 ?_⟩
    rw [dps_len h2, ← hn]
    exact .int _
theorem gd_lenT {t : TA} {n : Nat} (h : Ga K m t σ H [.tuple ds]) (hn : n = ds.length) : Gd K m (tCB (fun xs H Q => ∃ p ys, xs = [V.ref p] ∧ (SqL K H p ys ∨ SqT K H p ys) ∧ Q (.int ys.length) H) t) σ H (.int n) := gd_cb h fun vs H1 _ w1 p Q q => by
  cases p with
  | cons p1 p2 =>
    cases p2
    obtain ⟨a, xs, rfl, h1, h2⟩ := dp_tup p1
    refine ⟨a, xs, rfl, .inr h1, q _ H1 (Sm.refl _ _) w1 ?_⟩
    rw [dps_len h2, ← hn]
    exact .int _
theorem gd_tupleOf {t : TA} (h : Ga K m t σ H [.list ds]) (n : okDs m ds := by first | exact Or.inl rfl | exact Or.inr rfl) : Gd K m (tCB (fun xs H Q => ∃ p ys, xs = [V.ref p] ∧ ((SqL K H p ys ∧ ∀ l, H l = none → Q (.ref l) (upd H l (.tup ys))) ∨ (SqT K H p ys ∧ Q (.ref p) H))) t) σ H (.tuple ds) := gd_cb h fun vs H1 _ w1 p Q q => by
  cases p with
  | cons p1 p2 =>
    cases p2
    obtain ⟨a, xs, rfl, h1, h2⟩ := dp_lst p1
    exact ⟨a, xs, rfl, .inl ⟨h1, fun l hl => q _ _ (Sm.new hl) (w1.new hl) (.tup (SqT.of upd_same) (dps_sm (Sm.new hl) w1 n h2))⟩⟩
theorem gd_listOf {t : TA} (h : Ga K m t σ H [.list ds]) (n : okDs m ds := by first | exact Or.inl rfl | exact Or.inr rfl) : Gd K m (tCB (fun xs H Q => ∃ p ys, xs = [V.ref p] ∧ (SqL K H p ys ∨ SqT K H p ys) ∧ ∀ l, H l = none → Q (.ref l) (upd H l (.lst ys))) t) σ H (.list ds) := gd_cb h fun vs H1 _ w1 p Q q => by
  cases p with
  | cons p1 p2 =>
    cases p2
    obtain ⟨a, xs, rfl, h1, h2⟩ := dp_lst p1
    exact ⟨a, xs, rfl, .inl h1, fun l hl => q _ _ (Sm.new hl) (w1.new hl) (.lst (SqL.of upd_same) (dps_sm (Sm.new hl) w1 n h2))⟩
theorem gd_listOfT {t : TA} (h : Ga K m t σ H [.tuple ds]) (n : okDs m ds := by first | exact Or.inl rfl | exact Or.inr rfl) : Gd K m (tCB (fun xs H Q => ∃ p ys, xs = [V.ref p] ∧ (SqL K H p ys ∨ SqT K H p ys) ∧ ∀ l, H l = none → Q (.ref l) (upd H l (.lst ys))) t) σ H (.list ds) := gd_cb h fun vs H1 _ w1 p Q q => by
  cases p with
  | cons p1 p2 =>
    cases p2
    obtain ⟨a, xs, rfl, h1, h2⟩ := dp_tup p1
    exact ⟨a, xs, rfl, .inr h1, fun l hl => q _ _ (Sm.new hl) (w1.new hl) (.lst (SqL.of upd_same) (dps_sm (Sm.new hl) w1 n h2))⟩
theorem gd_all {t : TA} {bs : List Bool} (h : Ga K m t σ H [.list (bs.map .bool)]) : Gd K m (tCB (rAll K) t) σ H (.bool (bs.all id)) := gd_cb h fun vs H1 _ w1 p Q q => by
  cases p with
  | cons p1 p2 =>
    cases p2
    obtain ⟨a, xs, rfl, h1, h2⟩ := dp_lst p1
    rw [dps_bools_inv bs h2] at h1
    exact ⟨a, bs, rfl, h1, q _ H1 (Sm.refl _ _) w1 (.bl _)⟩
theorem gd_max {t : TA} {ns : List Int} {k : Int} (h : Ga K m t σ H [.list (ns.map .int)]) (h1 : k ∈ ns) (h2 : ∀ y ∈ ns, y ≤ k) : Gd K m (tCB (rMax K) t) σ H (.int k) := gd_cb h fun vs H1 _ w1 p Q q => by
  cases p with
  | cons p1 p2 =>
    cases p2
    obtain ⟨a, xs, rfl, h3, h4⟩ := dp_lst p1
    rw [dps_ints_inv ns h4] at h3
    refine ⟨a, ns, rfl, h3, List.length_pos_of_mem h1, fun k' hk hy => ?_⟩
    have : k' = k := by have := hy k h1; have := h2 k' hk; omega
    subst this
    exact q _ H1 (Sm.refl _ _) w1 (.int _)

/-! tests, truth values -/
theorem gt_B {b : Bool} (h : Gd K m te σ H (.bool b)) : GetsT m (tB te) σ H b := fun H1 s1 w1 Q q => h H1 s1 w1 _ fun v H2 s2 w2 p => by
  cases p
  exact ⟨b, rfl, q H2 s2 w2⟩
theorem gt_test {b : Bool} (h : Gd K m te σ H (.bool b)) : GetsT m (tTest te) σ H b := fun H1 s1 w1 Q q => h H1 s1 w1 _ fun v H2 s2 w2 p => by
  cases p
  exact ⟨b, rfl, q H2 s2 w2⟩
theorem gt_and {a b : Bool} (h1 : GetsT m t σ H a) (h2 : a = true → GetsT m u σ H b) : GetsT m (tAnd t u) σ H (a && b) := fun H1 s1 w1 Q q => h1 H1 s1 w1 _ fun H2 s2 w2 => by
  cases a with
  | true => exact iteT (h2 rfl H2 (s1.trans s2) w2 Q fun H3 s3 w3 => q H3 (s2.trans s3) w3)
  | false => exact iteF (q H2 s2 w2)
theorem gt_or {a b : Bool} (h1 : GetsT m t σ H a) (h2 : a = false → GetsT m u σ H b) : GetsT m (tOr t u) σ H (a || b) := fun H1 s1 w1 Q q => h1 H1 s1 w1 _ fun H2 s2 w2 => by
  cases a with
  | true => exact iteT (q H2 s2 w2)
  | false => exact iteF (h2 rfl H2 (s1.trans s2) w2 Q fun H3 s3 w3 => q H3 (s2.trans s3) w3)
theorem gt_not {a : Bool} (h1 : GetsT m t σ H a) : GetsT m (tNot t) σ H (!a) := fun H1 s1 w1 Q q => h1 H1 s1 w1 _ fun H2 s2 w2 => q H2 s2 w2
theorem GetsT.is {a b : Bool} (h : GetsT m t σ H a) (e : a = b) : GetsT m t σ H b := e ▸ h
theorem gd_andV {a b : Bool} (h1 : Gd K m ta σ H (.bool a)) (h2 : a = true → Gd K m tb σ H (.bool b)) : Gd K m (tAndV ta tb) σ H (.bool (a && b)) := fun H1 s1 w1 Q q => h1 H1 s1 w1 _ fun v H2 s2 w2 p => by
  cases p
  refine ⟨a, rfl, ?_⟩
  cases a with
  | true => exact iteT (h2 rfl H2 (s1.trans s2) w2 Q fun v H3 s3 w3 => q v H3 (s2.trans s3) w3)
  | false => exact iteF (q _ H2 s2 w2 (.bl _))
theorem gd_orV {a b : Bool} (h1 : Gd K m ta σ H (.bool a)) (h2 : a = false → Gd K m tb σ H (.bool b)) : Gd K m (tOrV ta tb) σ H (.bool (a || b)) := fun H1 s1 w1 Q q => h1 H1 s1 w1 _ fun v H2 s2 w2 p => by
  cases p
  refine ⟨a, rfl, ?_⟩
  cases a with
  | true => exact iteT (q _ H2 s2 w2 (.bl _))
  | false => exact iteF (h2 rfl H2 (s1.trans s2) w2 Q fun v H3 s3 w3 => q v H3 (s2.trans s3) w3)
theorem gd_notV {a : Bool} (h1 : Gd K m ta σ H (.bool a)) : Gd K m (tNotV ta) σ H (.bool (!a)) := fun H1 s1 w1 Q q => h1 H1 s1 w1 _ fun v H2 s2 w2 p => by
  cases p
  exact ⟨a, rfl, q _ H2 s2 w2 (.bl _)⟩
theorem gd_chain {r r' : R2} {tc : TE} {da db dc : PyData} {a b : Bool} (ha : Gd K m ta σ H da) (hb : Gd K m tb σ H db) (hr : Rd2 K m H r da db (.bool a)) (hc : a = true → Gd K m tc σ H dc) (hr' : a = true → Rd2 K m H r' db dc (.bool b))
    (oka : okD m da := by first | exact Or.inl rfl | exact Or.inr rfl) (okb : okD m db := by first | exact Or.inl rfl | exact Or.inr rfl) : Gd K m (tChain r r' ta tb tc) σ H (.bool (a && b)) := fun H1 s1 w1 Q q =>
  ha H1 s1 w1 _ fun x H2 s2 w2 p => hb H2 (s1.trans s2) w2 _ fun y H3 s3 w3 p' => hr x y H3 ((s1.trans s2).trans s3) w3 (dp_sm s3 w2 oka p) p' _ fun z H4 s4 w4 p4 => by
    cases p4
    refine ⟨a, rfl, ?_⟩
    have s14 := ((s1.trans s2).trans s3).trans s4
    cases a with
    | true => exact iteT (hc rfl H4 s14 w4 _ fun z' H5 s5 w5 p5 => hr' rfl y z' H5 (s14.trans s5) w5 (dp_sm (s4.trans s5) w3 okb p') p5 Q fun v H6 s6 w6 p6 => q v H6 ((((s2.trans s3).trans s4).trans s5).trans s6) w6 p6)
    | false => exact iteF (q _ H4 ((s2.trans s3).trans s4) w4 (.bl _))
theorem gd_if {b : Bool} (h : GetsT m t σ H b) (h1 : b = true → Gets m ta σ H P) (h2 : b = false → Gets m tb σ H P) : Gets m (tIf t ta tb) σ H P := fun H1 s1 w1 Q q => h H1 s1 w1 _ fun H2 s2 w2 => by
  cases b with
  | true => exact iteT (h1 rfl H2 (s1.trans s2) w2 Q fun v H3 s3 w3 => q v H3 (s2.trans s3) w3)
  | false => exact iteF (h2 rfl H2 (s1.trans s2) w2 Q fun v H3 s3 w3 => q v H3 (s2.trans s3) w3)
end
end K29
namespace K29
open PySem L2

/-- it comes to some data of which Pd holds -/
abbrev GdP (K : PySem.W.Frag) (m : List Addr) (te : TE) (σ : L2.St) (H : Hp) (Pd : PyData → Prop) : Prop := Gets m te σ H fun v H' => ∃ d, Pd d ∧ Dp K H' v d
def GetsTP (m : List Addr) (tt : TT) (σ : L2.St) (H : Hp) (P : Bool → Hp → Prop) : Prop := ∀ H1, Sm m H H1 → Wm m H1 → ∀ Q : Bool → Hp → Prop, (∀ b H2, Sm m H1 H2 → Wm m H2 → P b H2 → Q b H2) → tt σ H1 Q
/-- what a walk hands out: one thing a turn; two things a turn -/
def Src1 (K : PySem.W.Frag) (m : List Addr) (wi : TI) (σ : L2.St) (H : Hp) (n : Nat) (E : Nat → PyData) : Prop := ∀ H1, Sm m H H1 → Wm m H1 → ∀ R : It → Hp → Prop,
  (∀ J H2 (G : Hp → Prop) Y, Sm m H1 H2 → Wm m H2 → Walk J n G Y → (∀ H', Sm m H2 H' → Wm m H' → G H') → (∀ i x H' H'', i < n → Sm m H2 H' → Wm m H' → Y i H' x H'' → H'' = H' ∧ Dp K H' x (E i)) → R J H2) → wi σ H1 R
def Src2 (K : PySem.W.Frag) (m : List Addr) (wi : TI) (σ : L2.St) (H : Hp) (n : Nat) (E F : Nat → PyData) : Prop := ∀ H1, Sm m H H1 → Wm m H1 → ∀ R : It → Hp → Prop,
  (∀ J H2 (G : Hp → Prop) Y, Sm m H1 H2 → Wm m H2 → Walk J n G Y → (∀ H', Sm m H2 H' → Wm m H' → G H') → (∀ i v H' H'', i < n → Sm m H2 H' → Wm m H' → Y i H' v H'' → ∃ T x y, v = .ref T ∧ H' T = none ∧ H'' = upd H' T (.tup [x, y]) ∧ Dp K H' x (E i) ∧ Dp K H' y (F i)) → R J H2) → wi σ H1 R

section
variable {K : PySem.W.Frag} {m : List Addr} {σ : L2.St} {H H' : Hp} {ta tb te tl td : TE} {t u : TT} {x y z v : V} {r : R2} {d da db : PyData} {ds : List PyData} {P P' : V → Hp → Prop}
theorem GetsT.p {b : Bool} (h : GetsT m t σ H b) : GetsTP m t σ H (fun b' _ => b' = b) := fun H1 s w Q q => h H1 s w Q fun H2 s2 w2 => q b H2 s2 w2 rfl
theorem getD_at {α : Type} {l : List α} {i : Nat} {dflt : α} (h : i < l.length) : l[i]? = some (l.getD i dflt) := by rw [List.getD_eq_getElem?_getD, List.getElem?_eq_getElem h]; rfl

theorem src_list (h : Gd K [] tl σ H (.list ds)) : Src1 K [] (iList K tl) σ H ds.length (fun i => ds.getD i .none) := fun H1 s1 w1 R q =>
  h H1 s1 w1 _ fun v H2 s2 w2 p => by
    obtain ⟨a, xs, rfl, h1, h2⟩ := dp_lst p
    refine ⟨a, rfl, ⟨xs, h1⟩, q _ H2 (fun H => SqL K H a xs) (YAt xs) s2 w2 (by rw [← dps_len h2]; exact walk_list) (fun H' s' _ => s'.lst (by simp) h1) fun i x H' H'' hi s' _ y => ?_⟩
    obtain ⟨e1, e2⟩ := y
    refine ⟨e1, ?_⟩
    obtain ⟨v, h3, h4⟩ := dps_get h2 (getD_at (dflt := PyData.none) hi)
    rw [e2] at h3
    cases h3
    exact dp_sm0 s' h4
theorem src_tup (h : Gd K m tl σ H (.tuple ds)) (ok : okDs m ds := by first | exact Or.inl rfl | exact Or.inr rfl) : Src1 K m (iTup K tl) σ H ds.length (fun i => ds.getD i .none) := fun H1 s1 w1 R q =>
  h H1 s1 w1 _ fun v H2 s2 w2 p => by
    obtain ⟨a, xs, rfl, h1, h2⟩ := dp_tup p
    refine ⟨a, rfl, ⟨xs, h1⟩, q _ H2 (fun H => SqT K H a xs) (YAt xs) s2 w2 (by rw [← dps_len h2]; exact walk_tup) (fun H' s' _ => s'.tup w2 h1) fun i x H' H'' hi s' _ y => ?_⟩
    obtain ⟨e1, e2⟩ := y
    refine ⟨e1, ?_⟩
    obtain ⟨v, h3, h4⟩ := dps_get (dps_sm s' w2 ok h2) (getD_at (dflt := PyData.none) hi)
    rw [e2] at h3
    cases h3
    exact h4
theorem src_range1 {t : TA} {n : Nat} (h : Ga K m t σ H [.int n]) (hn : n ≤ 100000) : Src1 K m (iRng1 t) σ H n (fun i => .int i) := fun H1 s1 w1 R q =>
  h H1 s1 w1 _ fun vs H2 s2 w2 p => by
    cases p with
    | cons p1 p2 =>
      cases p2; cases p1
      refine ⟨n, rfl, by omega, by omega, q _ H2 (fun _ => True) _ s2 w2 (by rw [Int.toNat_natCast]; exact walk_range) (fun _ _ _ => trivial) fun i x H' H'' hi _ _ y => ?_⟩
      obtain ⟨e1, rfl⟩ := y
      refine ⟨e1, ?_⟩
      show Dp K H' (.int (0 + (i : Int))) (.int i)
      rw [Int.zero_add]
      exact .int _
theorem src_range2 {t : TA} {lo hi : Int} {n : Nat} (h : Ga K m t σ H [.int lo, .int hi]) (hb : -100000 ≤ lo ∧ lo ≤ 100000 ∧ -100000 ≤ hi ∧ hi ≤ 100000) (hn : n = (hi - lo).toNat) : Src1 K m (iRng2 t) σ H n (fun i => .int (lo + i)) := fun H1 s1 w1 R q =>
  h H1 s1 w1 _ fun vs H2 s2 w2 p => by
    cases p with
    | cons p1 p2 =>
      cases p2 with
      | cons p2 p3 =>
        cases p3; cases p1; cases p2
        subst hn
        refine ⟨lo, hi, rfl, ⟨by omega, by omega, by omega, by omega⟩, q _ H2 (fun _ => True) _ s2 w2 walk_range (fun _ _ _ => trivial) fun i x H' H'' hi _ _ y => ?_⟩
        obtain ⟨e1, rfl⟩ := y
        exact ⟨e1, .int _⟩
/-- a text of these codes -/
def tx (l : List Nat) : Str := ⟨l.toArray⟩
theorem tx_len (l : List Nat) : (tx l).length = l.length := rfl
theorem tx_list (l : List Nat) : (tx l).cps.toList = l := by simp [tx]
theorem tx_inj {a b : List Nat} (h : tx a = tx b) : a = b := by
  have := congrArg (fun s : Str => s.cps.toList) h
  simpa [tx] using this
theorem src_str {l : List Nat} (h : Gd K m te σ H (.str (tx l))) : Src1 K m (iStr te) σ H l.length (fun i => .str (tx [l.getD i 0])) := fun H1 s1 w1 R q =>
  h H1 s1 w1 _ fun v H2 s2 w2 p => by
    cases p
    refine ⟨tx l, rfl, q _ H2 (fun _ => True) _ s2 w2 (walk_str (z := tx l)) (fun _ _ _ => trivial) fun i x H' H'' hi _ _ y => ?_⟩
    obtain ⟨e1, c, hc, rfl⟩ := y
    refine ⟨e1, ?_⟩
    have e : c = l.getD i 0 := by
      have h2 : l[i]? = some c := by simpa [tx] using hc
      rw [List.getD_eq_getElem?_getD, h2]; rfl
    rw [e]
    exact .str _
theorem src_enum {t : TA} (h : Ga K [] t σ H [.list ds]) : Src2 K [] (iEnum K t) σ H ds.length (fun i => .int i) (fun i => ds.getD i .none) := fun H1 s1 w1 R q =>
  h H1 s1 w1 _ fun vs H2 s2 w2 p => by
    cases p with
    | cons p1 p2 =>
      cases p2
      obtain ⟨a, xs, rfl, h1, h2⟩ := dp_lst p1
      refine ⟨a, xs, rfl, h1, q _ H2 (fun H => SqL K H a xs) _ s2 w2 (by rw [← dps_len h2]; exact walk_enum) (fun H' s' _ => s'.lst (by simp) h1) fun i x H' H'' hi s' _ y => ?_⟩
      obtain ⟨T, x, y, e1, e2, e3, e4, e5⟩ := y
      cases e4
      refine ⟨T, _, y, e1, e2, e3, .int _, ?_⟩
      obtain ⟨v, h3, h4⟩ := dps_get h2 (getD_at (dflt := PyData.none) hi)
      have e5' : xs[i]? = some y := e5
      rw [e5'] at h3
      cases h3
      exact dp_sm0 s' h4
theorem src_zipT {t : TA} {es : List PyData} {n : Nat} (h : Ga K m t σ H [.tuple ds, .tuple es]) (hn : n = min ds.length es.length) (ok : okDs m ds := by first | exact Or.inl rfl | exact Or.inr rfl) (ok' : okDs m es := by first | exact Or.inl rfl | exact Or.inr rfl) :
    Src2 K m (RZ.iZipA K t) σ H n (fun i => ds.getD i .none) (fun i => es.getD i .none) := fun H1 s1 w1 R q =>
  h H1 s1 w1 _ fun vs H2 s2 w2 p => by
    cases p with
    | cons p1 p2 =>
      cases p2 with
      | cons p2 p3 =>
        cases p3
        obtain ⟨a, xs, rfl, h1, h2⟩ := dp_tup p1
        obtain ⟨b, ys, rfl, h3, h4⟩ := dp_tup p2
        have en : n = min xs.length ys.length := by rw [hn, dps_len h2, dps_len h4]
        refine ⟨a, b, xs, ys, rfl, .inr ⟨h1, h3, q _ H2 (fun H => SqT K H a xs ∧ SqT K H b ys) (YPair (fun i => xs[i]?) (fun i => ys[i]?)) s2 w2 ?_ (fun H' s' _ => ⟨s'.tup w2 h1, s'.tup w2 h3⟩) fun i x H' H'' hi s' _ y => ?_⟩⟩
        · subst en
          refine ⟨fun i _ hi q => ?_, fun _ q => ⟨xs, ys, q.1, q.2, by omega⟩, fun i H v H' _ q y => ?_⟩
          · have h1 : i < xs.length := by omega
            have h2 : i < ys.length := by omega
            exact ⟨xs, ys, xs[i], ys[i], q.1, q.2, by simp [h1], by simp [h2]⟩
          · obtain ⟨T, x, z, h1, h2, h3, h4, h5⟩ := y
            exact ⟨T, x, z, h1, h2, h3, h4 xs q.1, h5 ys q.2⟩
        · obtain ⟨T, x, y, e1, e2, e3, e4, e5⟩ := y
          have hi1 : i < ds.length := by omega
          have hi2 : i < es.length := by omega
          refine ⟨T, x, y, e1, e2, e3, ?_, ?_⟩
          · obtain ⟨v, h3, h4⟩ := dps_get (dps_sm s' w2 ok h2) (getD_at (dflt := PyData.none) hi1)
            have e4' : xs[i]? = some x := e4
            rw [e4'] at h3; cases h3; exact h4
          · obtain ⟨v, h5, h6⟩ := dps_get (dps_sm s' w2 ok' h4) (getD_at (dflt := PyData.none) hi2)
            have e5' : ys[i]? = some y := e5
            rw [e5'] at h5; cases h5; exact h6

/-! dicts whose values are data -/
def kD : Key → PyData
  | .inl i => .int i
  | .inr x => .str x
def lkD (kds : List (Key × PyData)) (k : Key) : Option PyData := (kds.find? fun p => decide (p.1 = k)).map (·.2)
theorem lkD_pos {k : Key} {d : PyData} {r : List (Key × PyData)} : lkD ((k, d) :: r) k = some d := by simp [lkD]
theorem lkD_neg {k j : Key} {d : PyData} {r : List (Key × PyData)} (h : ¬ j = k) : lkD ((j, d) :: r) k = lkD r k := by simp [lkD, List.find?_cons, h]
structure DictAt (K : PySem.W.Frag) (H : Hp) (p : Addr) (kds : List (Key × PyData)) : Prop where
  ex : ∃ kvs, H p = some (.dK kvs) ∧ kvs.map (·.1) = kds.map (·.1) ∧ DpAll K H (kvs.map (·.2)) (kds.map (·.2))
theorem dict_look : ∀ {kvs : List (Key × V)} {kds : List (Key × PyData)} {k : Key} {d : PyData}, kvs.map (·.1) = kds.map (·.1) → DpAll K H (kvs.map (·.2)) (kds.map (·.2)) → lkD kds k = some d → ∃ v, valV kvs k = some v ∧ Dp K H v d
  | [], [], _, _, _, _, e => by simp [lkD] at e
  | [], _ :: _, _, _, h, _, _ => by simp at h
  | _ :: _, [], _, _, h, _, _ => by simp at h
  | (k1, v1) :: kvs, (k2, d2) :: kds, k, d, h, hd, e => by
    simp only [List.map_cons, List.cons.injEq] at h
    obtain ⟨rfl, h⟩ := h
    cases hd with
    | cons h1 h2 =>
      by_cases q : k1 = k
      · subst q
        rw [lkD_pos] at e
        cases e
        exact ⟨v1, valV_pos rfl, h1⟩
      · rw [lkD_neg q] at e
        obtain ⟨v, h3, h4⟩ := dict_look h h2 e
        exact ⟨v, by rw [valV_neg q]; exact h3, h4⟩
theorem dict_no : ∀ {kvs : List (Key × V)} {kds : List (Key × PyData)} {k : Key}, kvs.map (·.1) = kds.map (·.1) → (k ∉ kds.map (·.1)) → valV kvs k = none
  | [], _, _, _, _ => rfl
  | (k1, v1) :: kvs, [], _, h, _ => by simp at h
  | (k1, v1) :: kvs, (k2, d2) :: kds, k, h, hk => by
    simp only [List.map_cons, List.cons.injEq] at h
    obtain ⟨rfl, h⟩ := h
    simp only [List.map_cons, List.mem_cons, not_or] at hk
    rw [valV_neg (fun z => hk.1 z.symm)]
    exact dict_no h hk.2
theorem DictAt.sm {kds : List (Key × PyData)} {p : Addr} (D : DictAt K H p kds) (s : Sm m H H') (w : Wm m H) (ok : okDs m (kds.map (·.2)) := by first | exact Or.inl rfl | assumption) : DictAt K H' p kds := by
  obtain ⟨kvs, h1, h2, h3⟩ := D.ex
  exact ⟨kvs, s.at w h1 (fun _ e => by cases e), h2, dps_sm s w ok h3⟩
/-- d[k], the key and the dict as they are told -/
theorem gd_dget {p : Addr} {k : Key} {kds : List (Key × PyData)} (hd : Gv m td σ H (.ref p)) (hk : Gd K m ta σ H (kD k)) (D : DictAt K H p kds) (w : Wm m H) (ok : okDs m (kds.map (·.2))) (e : lkD kds k = some d) : Gd K m (tDGet td ta) σ H d := fun H1 s1 w1 Q q =>
  hd H1 s1 w1 _ fun v H2 s2 w2 p2 => hk H2 (s1.trans s2) w2 _ fun y H3 s3 w3 p3 => by
    subst p2
    obtain ⟨kvs, h1, h2, h3⟩ := (D.sm ((s1.trans s2).trans s3) w ok).ex
    obtain ⟨v, h4, h5⟩ := dict_look h2 h3 e
    refine ⟨p, v, rfl, .inl ⟨kvs, k, .inl h1, ?_, h4.symm⟩, q v H3 (s2.trans s3) w3 h5⟩
    cases k <;> (cases p3; rfl)
/-- d[k] for a dict read by its value -/
theorem gv_dget {p : Addr} {k : Key} {kvs : List (Key × V)} (hd : Gv m td σ H (.ref p)) (hk : Gd K m ta σ H (kD k)) (D : H p = some (.dK kvs)) (w : Wm m H) (e : valV kvs k = some v) : Gv m (tDGet td ta) σ H v := fun H1 s1 w1 Q q =>
  hd H1 s1 w1 _ fun u H2 s2 w2 p2 => hk H2 (s1.trans s2) w2 _ fun y H3 s3 w3 p3 => by
    subst p2
    have h1 := ((s1.trans s2).trans s3).at w D (fun _ e => by cases e)
    refine ⟨p, v, rfl, .inl ⟨kvs, k, .inl h1, ?_, e.symm⟩, q v H3 (s2.trans s3) w3 rfl⟩
    cases k <;> (cases p3; rfl)

/-! comprehensions -/
theorem lc_gen1 {wi : TI} {j n : Nat} {vs : List Nat} {E : Nat → PyData} (hS : Src1 K m wi σ H n E) (hn : n ≤ 50000) (I : Nat → List PyData → Prop) (h0 : I 0 [])
    (hw : ∀ x, wipe ((wipe σ vs).set j (some x)) vs = wipe σ vs)
    (hs : ∀ i x H' acc, i < n → Sm m H H' → Wm m H' → Dp K H' x (E i) → I i acc → GetsTP m t ((wipe σ vs).set j (some x)) H' fun b H'' =>
      if b = true then GdP K m te ((wipe σ vs).set j (some x)) H'' (fun d => noL d = true ∧ I (i + 1) (acc ++ [d])) else I (i + 1) acc) :
    GdP K m (tLc wi (gName j) t te vs) σ H (fun d => ∃ ds, d = .list ds ∧ I n ds) := fun H1 s1 w1 Q q => by
  refine hS H1 s1 w1 _ fun J H2 G Y s2 w2 W hG hY D hD => ?_
  refine lc_it W (fun i H' => ∃ acc ds, Sm m H2 H' ∧ Wm m H' ∧ H' D = some (.lst acc) ∧ DpAll K H' acc ds ∧ noLs ds = true ∧ ds.length ≤ i ∧ I i ds) ⟨[], [], Sm.new hD, w2.new hD, upd_same, .nil, rfl, Nat.le_refl _, h0⟩ (fun i H' _ ⟨_, _, s, w, _⟩ => hG H' s w) ?_ ?_
  · rintro i x H' H'' hi ⟨acc, ds, s, w, hd, hp, hno, hl, hI⟩ hy
    obtain ⟨rfl, hx⟩ := hY i x H' H'' hi s w hy
    refine ⟨hw x, hs i x H'' ds hi ((s1.trans s2).trans s) w hx hI H'' (Sm.refl _ _) w _ fun b H3 s3 w3 p3 => ?_⟩
    have hD3 : ∀ {H4 : Hp}, Sm m H'' H4 → H4 D = some (.lst acc) := fun s4 => s4 D _ (fun hm => by
      obtain ⟨i, j, k, e⟩ := w2 D hm
      rw [hD] at e; cases e) hd
    cases b with
    | true =>
      rw [if_pos rfl] at p3
      refine iteT (p3 H3 (Sm.refl _ _) w3 _ fun y H4 s4 w4 p4 => ?_)
      obtain ⟨d, ⟨nd, hI'⟩, hyd⟩ := p4
      have hd4 := hD3 (s3.trans s4)
      refine ⟨acc, hd4, Nat.lt_of_le_of_lt (show acc.length ≤ 50000 by rw [dps_len hp]; omega) (by decide), acc ++ [y], ds ++ [d], ((s.trans s3).trans s4).mut hD, ?_, upd_same, ?_, ?_, by simp; omega, hI'⟩
      · intro c hc
        obtain ⟨i, j, k, e⟩ := w4 c hc
        refine ⟨i, j, k, ?_⟩
        rw [upd_ne]
        · exact e
        · intro ec; subst ec
          obtain ⟨i, j, k, e⟩ := w2 c hc
          rw [hD] at e; cases e
      · exact dps_upd (by rw [noLs_iff] at hno ⊢; intro x hx; rcases List.mem_append.mp hx with h | h; exact hno x h; simp at h; subst h; exact nd) hd4 (dps_snoc (dps_sm (s3.trans s4) w (.inr hno) hp) hyd)
      · rw [noLs_iff] at hno ⊢; intro x hx; rcases List.mem_append.mp hx with h | h; exact hno x h; simp at h; subst h; exact nd
    | false =>
      refine iteF ?_
      rw [if_neg (by simp)] at p3
      exact ⟨acc, ds, s.trans s3, w3, hD3 s3, dps_sm s3 w (.inr hno) hp, hno, by omega, p3⟩
  · rintro H' ⟨acc, ds, s, w, hd, hp, hno, hl, hI⟩
    exact q _ _ (s2.trans s) w ⟨.list ds, ⟨ds, rfl, hI⟩, .lst (SqL.of hd) hp⟩
theorem lc_gen2 {wi : TI} {j j' n : Nat} {vs : List Nat} {E F : Nat → PyData} (hS : Src2 K m wi σ H n E F) (hn : n ≤ 50000) (I : Nat → List PyData → Prop) (h0 : I 0 [])
    (hw : ∀ x y, wipe (((wipe σ vs).set j (some x)).set j' (some y)) vs = wipe σ vs)
    (hs : ∀ i x y H' acc, i < n → Sm m H H' → Wm m H' → Dp K H' x (E i) → Dp K H' y (F i) → I i acc → GetsTP m t (((wipe σ vs).set j (some x)).set j' (some y)) H' fun b H'' =>
      if b = true then GdP K m te (((wipe σ vs).set j (some x)).set j' (some y)) H'' (fun d => noL d = true ∧ I (i + 1) (acc ++ [d])) else I (i + 1) acc)
    (hE : ∀ i, i < n → okD m (E i)) (hF : ∀ i, i < n → okD m (F i)) :
    GdP K m (tLc wi (gTup K 2 (gCons (gName j) (gCons (gName j') gNil))) t te vs) σ H (fun d => ∃ ds, d = .list ds ∧ I n ds) := fun H1 s1 w1 Q q => by
  refine hS H1 s1 w1 _ fun J H2 G Y s2 w2 W hG hY D hD => ?_
  refine lc_it W (fun i H' => ∃ acc ds, Sm m H2 H' ∧ Wm m H' ∧ H' D = some (.lst acc) ∧ DpAll K H' acc ds ∧ noLs ds = true ∧ ds.length ≤ i ∧ I i ds) ⟨[], [], Sm.new hD, w2.new hD, upd_same, .nil, rfl, Nat.le_refl _, h0⟩ (fun i H' _ ⟨_, _, s, w, _⟩ => hG H' s w) ?_ ?_
  · rintro i v H' H'' hi ⟨acc, ds, s, w, hd, hp, hno, hl, hI⟩ hy
    obtain ⟨T, x, y, rfl, hT, rfl, hx, hy⟩ := hY i v H' H'' hi s w hy
    have sT : Sm m H' (upd H' T (.tup [x, y])) := Sm.new hT
    have wT : Wm m (upd H' T (.tup [x, y])) := w.new hT
    have hdT : (upd H' T (.tup [x, y])) D = some (.lst acc) := by
      rw [upd_ne (ne_of_none hd hT)]; exact hd
    refine ⟨T, [x, y], rfl, SqT.of upd_same, rfl, x, [y], rfl, y, [], rfl, rfl, ?_⟩
    refine ⟨hw x y, hs i x y _ ds hi (((s1.trans s2).trans s).trans sT) wT (dp_sm sT w (hE i hi) hx) (dp_sm sT w (hF i hi) hy) hI _ (Sm.refl _ _) wT _ fun b H3 s3 w3 p3 => ?_⟩
    have hD3 : ∀ {H4 : Hp}, Sm m (upd H' T (.tup [x, y])) H4 → H4 D = some (.lst acc) := fun s4 => s4 D _ (fun hm => by
      obtain ⟨i, j, k, e⟩ := w2 D hm
      rw [hD] at e; cases e) hdT
    have hp' := dps_sm sT w (.inr hno) hp
    cases b with
    | true =>
      rw [if_pos rfl] at p3
      refine iteT (p3 H3 (Sm.refl _ _) w3 _ fun y H4 s4 w4 p4 => ?_)
      obtain ⟨d, ⟨nd, hI'⟩, hyd⟩ := p4
      have hd4 := hD3 (s3.trans s4)
      refine ⟨acc, hd4, Nat.lt_of_le_of_lt (show acc.length ≤ 50000 by rw [dps_len hp]; omega) (by decide), acc ++ [y], ds ++ [d], (((s.trans sT).trans s3).trans s4).mut hD, ?_, upd_same, ?_, ?_, by simp; omega, hI'⟩
      · intro c hc
        obtain ⟨i, j, k, e⟩ := w4 c hc
        refine ⟨i, j, k, ?_⟩
        rw [upd_ne]
        · exact e
        · intro ec; subst ec
          obtain ⟨i, j, k, e⟩ := w2 c hc
          rw [hD] at e; cases e
      · exact dps_upd (by rw [noLs_iff] at hno ⊢; intro x hx; rcases List.mem_append.mp hx with h | h; exact hno x h; simp at h; subst h; exact nd) hd4 (dps_snoc (dps_sm (s3.trans s4) wT (.inr hno) hp') hyd)
      · rw [noLs_iff] at hno ⊢; intro x hx; rcases List.mem_append.mp hx with h | h; exact hno x h; simp at h; subst h; exact nd
    | false =>
      refine iteF ?_
      rw [if_neg (by simp)] at p3
      exact ⟨acc, ds, (s.trans sT).trans s3, w3, hD3 s3, dps_sm s3 wT (.inr hno) hp', hno, by omega, p3⟩
  · rintro H' ⟨acc, ds, s, w, hd, hp, hno, hl, hI⟩
    exact q _ _ (s2.trans s) w ⟨.list ds, ⟨ds, rfl, hI⟩, .lst (SqL.of hd) hp⟩
theorem range_filter_map (f : Nat → Bool) (e : Nat → PyData) (i : Nat) : ((List.range (i + 1)).filter f).map e = ((List.range i).filter f).map e ++ (if f i = true then [e i] else []) := by
  rw [List.range_succ, List.filter_append, List.map_append]
  congr 1
  by_cases h : f i = true
  · rw [if_pos h]; simp [h]
  · rw [if_neg h]; simp [h]
/-- [e for x in .. if f] -/
theorem gd_lcF1 {wi : TI} {j n : Nat} {vs : List Nat} {E : Nat → PyData} (f : Nat → Bool) (e : Nat → PyData) (hS : Src1 K m wi σ H n E) (hn : n ≤ 50000)
    (ht : ∀ i x H', i < n → Sm m H H' → Wm m H' → Dp K H' x (E i) → GetsT m t ((wipe σ vs).set j (some x)) H' (f i))
    (he : ∀ i x H', i < n → f i = true → Sm m H H' → Wm m H' → Dp K H' x (E i) → Gd K m te ((wipe σ vs).set j (some x)) H' (e i))
    (hE : ∀ i, i < n → okD m (E i) := by intro _ _; exact Or.inl rfl) (hno : ∀ i, i < n → noL (e i) = true := by intro _ _; rfl)
    (hw : ∀ x, wipe ((wipe σ vs).set j (some x)) vs = wipe σ vs := by intro _; rfl) : Gd K m (tLc wi (gName j) t te vs) σ H (.list (((List.range n).filter f).map e)) := by
  refine (lc_gen1 hS hn (fun i ds => ds = ((List.range i).filter f).map e) rfl hw fun i x H' acc hi s w hx hI => ?_).imp fun v H1 _ _ p => by
    obtain ⟨d, ⟨ds, rfl, rfl⟩, h⟩ := p
    exact h
  intro H1 s1 w1 Q q
  refine ht i x H' hi s w hx H1 s1 w1 Q fun H2 s2 w2 => q _ H2 s2 w2 ?_
  cases hf : f i with
  | true =>
    rw [if_pos rfl]
    refine ((he i x H2 hi hf ((s.trans s1).trans s2) w2 (dp_sm (s1.trans s2) w (hE i hi) hx))).imp fun v H3 _ _ p => ⟨e i, ⟨hno i hi, ?_⟩, p⟩
    rw [range_filter_map, if_pos hf, hI]
  | false =>
    rw [if_neg (by simp)]
    rw [range_filter_map, if_neg (by simp [hf]), hI, List.append_nil]
theorem range_map_all (e : Nat → PyData) (n : Nat) : ((List.range n).filter fun _ => true).map e = (List.range n).map e := by
  rw [List.filter_eq_self.mpr (by simp)]
theorem gt_yes : GetsT m tYes σ H true := fun H1 _ w Q q => q H1 (Sm.refl _ _) w
/-- [e for x in ..] -/
theorem gd_lc1 {wi : TI} {j n : Nat} {vs : List Nat} {E : Nat → PyData} (e : Nat → PyData) (hS : Src1 K m wi σ H n E) (hn : n ≤ 50000)
    (he : ∀ i x H', i < n → Sm m H H' → Wm m H' → Dp K H' x (E i) → Gd K m te ((wipe σ vs).set j (some x)) H' (e i))
    (hE : ∀ i, i < n → okD m (E i) := by intro _ _; exact Or.inl rfl) (hno : ∀ i, i < n → noL (e i) = true := by intro _ _; rfl)
    (hw : ∀ x, wipe ((wipe σ vs).set j (some x)) vs = wipe σ vs := by intro _; rfl) : Gd K m (tLc wi (gName j) tYes te vs) σ H (.list ((List.range n).map e)) :=
  Gets.is (gd_lcF1 (fun _ => true) e hS hn (fun _ _ _ _ _ _ _ => gt_yes) (fun i x H' hi _ s w hx => he i x H' hi s w hx) hE hno hw) (by rw [range_map_all])
theorem gd_lcF2 {wi : TI} {j j' n : Nat} {vs : List Nat} {E F : Nat → PyData} (f : Nat → Bool) (e : Nat → PyData) (hS : Src2 K m wi σ H n E F) (hn : n ≤ 50000)
    (ht : ∀ i x y H', i < n → Sm m H H' → Wm m H' → Dp K H' x (E i) → Dp K H' y (F i) → GetsT m t (((wipe σ vs).set j (some x)).set j' (some y)) H' (f i))
    (he : ∀ i x y H', i < n → f i = true → Sm m H H' → Wm m H' → Dp K H' x (E i) → Dp K H' y (F i) → Gd K m te (((wipe σ vs).set j (some x)).set j' (some y)) H' (e i))
    (hE : ∀ i, i < n → okD m (E i) := by intro _ _; exact Or.inl rfl) (hF : ∀ i, i < n → okD m (F i) := by intro _ _; exact Or.inl rfl) (hno : ∀ i, i < n → noL (e i) = true := by intro _ _; rfl)
    (hw : ∀ x y, wipe (((wipe σ vs).set j (some x)).set j' (some y)) vs = wipe σ vs := by intro _ _; rfl) : Gd K m (tLc wi (gTup K 2 (gCons (gName j) (gCons (gName j') gNil))) t te vs) σ H (.list (((List.range n).filter f).map e)) := by
  refine (lc_gen2 hS hn (fun i ds => ds = ((List.range i).filter f).map e) rfl hw (fun i x y H' acc hi s w hx hy hI => ?_) hE hF).imp fun v H1 _ _ p => by
    obtain ⟨d, ⟨ds, rfl, rfl⟩, h⟩ := p
    exact h
  intro H1 s1 w1 Q q
  refine ht i x y H' hi s w hx hy H1 s1 w1 Q fun H2 s2 w2 => q _ H2 s2 w2 ?_
  cases hf : f i with
  | true =>
    rw [if_pos rfl]
    refine ((he i x y H2 hi hf ((s.trans s1).trans s2) w2 (dp_sm (s1.trans s2) w (hE i hi) hx) (dp_sm (s1.trans s2) w (hF i hi) hy))).imp fun v H3 _ _ p => ⟨e i, ⟨hno i hi, ?_⟩, p⟩
    rw [range_filter_map, if_pos hf, hI]
  | false =>
    rw [if_neg (by simp)]
    rw [range_filter_map, if_neg (by simp [hf]), hI, List.append_nil]
theorem gd_lc2 {wi : TI} {j j' n : Nat} {vs : List Nat} {E F : Nat → PyData} (e : Nat → PyData) (hS : Src2 K m wi σ H n E F) (hn : n ≤ 50000)
    (he : ∀ i x y H', i < n → Sm m H H' → Wm m H' → Dp K H' x (E i) → Dp K H' y (F i) → Gd K m te (((wipe σ vs).set j (some x)).set j' (some y)) H' (e i))
    (hE : ∀ i, i < n → okD m (E i) := by intro _ _; exact Or.inl rfl) (hF : ∀ i, i < n → okD m (F i) := by intro _ _; exact Or.inl rfl) (hno : ∀ i, i < n → noL (e i) = true := by intro _ _; rfl)
    (hw : ∀ x y, wipe (((wipe σ vs).set j (some x)).set j' (some y)) vs = wipe σ vs := by intro _ _; rfl) : Gd K m (tLc wi (gTup K 2 (gCons (gName j) (gCons (gName j') gNil))) tYes te vs) σ H (.list ((List.range n).map e)) :=
  Gets.is (gd_lcF2 (fun _ => true) e hS hn (fun _ _ _ _ _ _ _ _ _ => gt_yes) (fun i x y H' hi _ s w hx hy => he i x y H' hi s w hx hy) hE hF hno hw) (by rw [range_map_all])
end
end K29
namespace K29
open PySem L2

def top (i : Nat) : Stmt := PySem.Challenge.pw_whatcounts_k29_whole_merges.main.body.getD i (.Pass ⟨0, 0, 0, 0⟩)
abbrev s_is_integer : Stmt := top 12
abbrev s_is_integer_within : Stmt := top 13
abbrev s_are_small : Stmt := top 14
abbrev s_is_letters : Stmt := top 15
abbrev s_is_text_within : Stmt := top 16
abbrev s_require_letters : Stmt := top 17
abbrev s_are_states : Stmt := top 20
abbrev s_are_moves : Stmt := top 21
abbrev s_is_state_set : Stmt := top 22
abbrev s_init : Stmt := inClass (top 23) 0
abbrev s_invert : Stmt := inClass (top 23) 8
abbrev s_len : Stmt := inClass (top 23) 13
abbrev s_state_behind : Stmt := top 24
abbrev s_says : Stmt := top 25
abbrev s_reader_from : Stmt := top 27
abbrev s_require_reader : Stmt := top 31
abbrev s_numbers_of : Stmt := top 33
abbrev s_classes_of : Stmt := top 34
abbrev s_least_of : Stmt := top 35
abbrev s_first_texts : Stmt := top 36
abbrev s_least_reader : Stmt := top 37
abbrev s_merge_of : Stmt := top 38
abbrev s_first_merge : Stmt := top 39
abbrev s_is_merge : Stmt := top 40
abbrev s_is_turning : Stmt := top 41
abbrev s__law_first_lines : Stmt := top 43
abbrev s__law_kin : Stmt := top 44
abbrev s__law_lean : Stmt := top 45
abbrev s__law_merge_there : Stmt := top 46
abbrev s__law_cup : Stmt := top 47
abbrev s__law_bit : Stmt := top 48
abbrev s__law_pick : Stmt := top 49
abbrev s__law_dealt : Stmt := top 50
abbrev s__law_signs : Stmt := top 51
abbrev s__law_line : Stmt := top 52
abbrev s__law_some_of : Stmt := top 53
abbrev s__law_any_ways : Stmt := top 54
abbrev s__law_turning_ways : Stmt := top 55
abbrev s__law_ring_ways : Stmt := top 56
abbrev s__law_pair_ways : Stmt := top 57
abbrev s__law_turner : Stmt := top 58
abbrev s__law_plain_reader : Stmt := top 59
abbrev s__law_read : Stmt := top 60
abbrev s__law_made_reader : Stmt := top 61
abbrev s__law_is_due : Stmt := top 62
abbrev s__law_near : Stmt := top 63
abbrev s__law_cell_right : Stmt := top 64
abbrev s_law : Stmt := top 65

/-- what the walk asks of the module's names -/
structure Txt (K : PySem.W.Frag) (mg : Str → Option Value) (C : Addr) : Prop where
  cl : Cls K C
  nl : NoAttr K C "own_letters"
  nm : NoAttr K C "own_moves"
  ny : NoAttr K C "own_yes"
  mgReader : mg "Reader" = some (.ref C)
  kc1 : PySem.W.findIn K (.ref C) "__class__" = some (some (.builtin "object.__class__"))
  kc2 : PySem.W.specialIn K (.builtin "object.__class__") "__get__" = some (some (.builtin "getset_descriptor.__get__"))
  kc3 : PySem.W.takesIn K (.builtin "object.__class__") = some true
  kc4 : PySem.W.mroIn K C (.type "object") = some true
  MAX_TEXT : ∃ t, mg "MAX_TEXT" = some (.int 4000 t)
  MOST_LETTERS : ∃ t, mg "MOST_LETTERS" = some (.int 3 t)
  MAX_STATES : ∃ t, mg "MAX_STATES" = some (.int 60 t)
  GREATEST : ∃ t, mg "GREATEST" = some (.int (10 ^ 200 - 1) t)
  len : mg "len" = none
  isinstance : mg "isinstance" = none
  all : mg "all" = none
  zip : mg "zip" = none
  range : mg "range" = none
  enumerate : mg "enumerate" = none
  abs : mg "abs" = none
  max : mg "max" = none
  min : mg "min" = none
  repr : mg "repr" = none
  sorted : mg "sorted" = none
  int : mg "int" = none
  str : mg "str" = none
  bool : mg "bool" = none
  tuple : mg "tuple" = none
  list : mg "list" = none
  dict : mg "dict" = none
  set : mg "set" = none

/-- a def of the text keeps a promise -/
def Ok1 (P : Program) (w : World) (K : PySem.W.Frag) (mg : Str → Option Value) (base : Heap) (x : Str) (ps : List Str) (k : Nat) (sp : Sp) : Prop :=
  ∃ (f : Addr) (fd : FuncData), FnOk P w K mg base CX0 k f fd ps sp ∧ mg x = some (.ref f) ∧ PySem.W.keepIn K (.ref f) = true ∧ Binds K fd ps []
theorem pe_callP {X : Cx} {x : Str} {ps : List Str} {k k' : Nat} {sp : Sp} {e : Expr} {es : List Expr} {t : TA} {p pos : Pos} (F : Ok1 X.prog X.w X.K X.mg X.base x ps k sp) (hr : Room k' X.A) (hg : Gl X x) (ha : PA X (e :: es) t) (hk : k ≤ k' := by decide) (hdb : (x == ("__debug__" : Str)) = false := by decide)
    (he : starEach (e :: es) X.env = (false, eval e X.env) :: starEach es X.env := by rfl) (hpl : (backTo pos (starEach es X.env)).any (·.1) = false := by rfl) :
    PE X (.Call (.Name x p) (e :: es) [] pos) (tCall sp [] E0 t) := by
  obtain ⟨f, fd, G, m, kp, b⟩ := F
  exact pe_call G (hr.mono hk) hg m kp b .nil pass0 ha hdb he hpl
/-- a module's number -/
theorem pe_gi {X : Cx} {x : Str} {i : Int} {pos : Pos} (hg : Gl X x) (hm : ∃ t, X.mg x = some (.int i t)) (hd : (x == ("__debug__" : Str)) = false := by decide) : PE X (.Name x pos) (tC (.int i)) := by
  obtain ⟨t, hm⟩ := hm
  exact pe_glob hg hm ⟨t, rfl⟩ hd
/-- a built-in class as a value -/
theorem pe_ty {X : Cx} {x : Str} {n : String} {pos : Pos} (hg : Gl X x) (hm : X.mg x = none) (hv : bootBuiltins x = some (.type n)) (hn : x ≠ "__name__" := by decide) (hd : (x == ("__debug__" : Str)) = false := by decide) : PE X (.Name x pos) (tC (.ty n)) := pe_bltn hg hm hv rfl hn hd

/-! ### readers in the heap -/
def rowD (r : List Nat) : PyData := .tuple (r.map fun q : Nat => PyData.int (q : Int))
def rowL (r : List Nat) : PyData := .list (r.map fun q : Nat => PyData.int (q : Int))
def ck (c : Nat) : Key := .inr (tx [c])
def movesD (A : Aut) : List (Key × PyData) := A.ls.map fun c => (ck c, rowD (A.row c))
theorem noL_row (r : List Nat) : noL (rowD r) = true := by
  unfold rowD noL
  exact noLs_map fun _ _ => rfl
theorem noL_moves (A : Aut) : noLs ((movesD A).map (·.2)) = true := by
  unfold movesD
  rw [List.map_map]
  exact noLs_map fun _ _ => noL_row _
theorem ck_inj {a b : Nat} (h : ck a = ck b) : a = b := by
  have := tx_inj (Sum.inr.inj h)
  simpa using this
theorem lkD_map {ls : List Nat} {f : Nat → PyData} {c : Nat} (h : c ∈ ls) : lkD (ls.map fun c => (ck c, f c)) (ck c) = some (f c) := by
  induction ls with
  | nil => simp at h
  | cons a ls ih =>
    rw [List.map_cons]
    by_cases e : a = c
    · subst e; exact lkD_pos
    · rw [lkD_neg (fun q => e (ck_inj q))]
      rcases List.mem_cons.mp h with h | h
      · exact absurd h.symm e
      · exact ih h
theorem movesD_look {A : Aut} {c : Nat} (h : c ∈ A.ls) : lkD (movesD A) (ck c) = some (rowD (A.row c)) := lkD_map h
def rdF (ls : List Nat) (d ty : Addr) : List (Str × V) := putF "own_yes" (.ref ty) (putF "own_moves" (.ref d) (putF "own_letters" (.str (tx ls)) []))
theorem rdF_l (ls : List Nat) (d ty : Addr) : (rdF ls d ty).lookup ("own_letters" : Str) = some (.str (tx ls)) := by
  unfold rdF
  rw [lookup_putF, if_neg (by decide +kernel), lookup_putF, if_neg (by decide +kernel), lookup_putF, if_pos rfl]
theorem rdF_m (ls : List Nat) (d ty : Addr) : (rdF ls d ty).lookup ("own_moves" : Str) = some (.ref d) := by
  unfold rdF
  rw [lookup_putF, if_neg (by decide +kernel), lookup_putF, if_pos rfl]
theorem rdF_y (ls : List Nat) (d ty : Addr) : (rdF ls d ty).lookup ("own_yes" : Str) = some (.ref ty) := by
  unfold rdF
  rw [lookup_putF, if_pos rfl]
/-- a reader stands at r, its moves at d, its yes at ty -/
structure RAt (K : PySem.W.Frag) (C : Addr) (H : Hp) (r : Addr) (A : Aut) (d ty : Addr) : Prop where
  ob : ∃ dx, H r = some (.ins C dx (rdF A.ls d ty))
  mv : DictAt K H d (movesD A)
  ys : Dp K H (.ref ty) (rowD A.yes)
def RdAt (K : PySem.W.Frag) (C : Addr) (H : Hp) (r : Addr) (A : Aut) : Prop := ∃ d ty, RAt K C H r A d ty
section
variable {K : PySem.W.Frag} {C : Addr} {m : List Addr} {H H' : Hp} {r d ty : Addr} {A : Aut} {σ : L2.St} {ta tb td te : TE}
theorem RAt.sm (R : RAt K C H r A d ty) (s : Sm m H H') (w : Wm m H) : RAt K C H' r A d ty := by
  obtain ⟨⟨dx, h⟩, h2, h3⟩ := R
  exact ⟨⟨dx, s.at w h fun _ e => by cases e⟩, h2.sm s w (.inr (noL_moves A)), dp_sm s w (.inr (noL_row _)) h3⟩
theorem RdAt.sm (R : RdAt K C H r A) (s : Sm m H H') (w : Wm m H) : RdAt K C H' r A := by
  obtain ⟨d, ty, R⟩ := R
  exact ⟨d, ty, R.sm s w⟩
theorem RdAt.sm0 (R : RdAt K C H r A) (s : Sm [] H H') : RdAt K C H' r A := R.sm s Wm.nil
theorem gd_fld_l (hr : Gv m ta σ H (.ref r)) (R : RAt K C H r A d ty) (w : Wm m H) {mg : Str → Option Value} (T : Txt K mg C) : Gd K m (tFld K ta "own_letters") σ H (.str (tx A.ls)) := fun H1 s1 w1 Q q =>
  hr H1 s1 w1 _ fun v H2 s2 w2 p => by
    subst p
    obtain ⟨⟨dx, h⟩, _, _⟩ := R.sm (s1.trans s2) w
    exact ⟨r, C, dx, _, _, rfl, h, T.cl, T.nl, rdF_l _ _ _, q _ H2 s2 w2 (.str _)⟩
theorem gv_fld_m (hr : Gv m ta σ H (.ref r)) (R : RAt K C H r A d ty) (w : Wm m H) {mg : Str → Option Value} (T : Txt K mg C) : Gv m (tFld K ta "own_moves") σ H (.ref d) := fun H1 s1 w1 Q q =>
  hr H1 s1 w1 _ fun v H2 s2 w2 p => by
    subst p
    obtain ⟨⟨dx, h⟩, _, _⟩ := R.sm (s1.trans s2) w
    exact ⟨r, C, dx, _, _, rfl, h, T.cl, T.nm, rdF_m _ _ _, q _ H2 s2 w2 rfl⟩
theorem gd_fld_y (hr : Gv m ta σ H (.ref r)) (R : RAt K C H r A d ty) (w : Wm m H) {mg : Str → Option Value} (T : Txt K mg C) : Gd K m (tFld K ta "own_yes") σ H (rowD A.yes) := fun H1 s1 w1 Q q =>
  hr H1 s1 w1 _ fun v H2 s2 w2 p => by
    subst p
    obtain ⟨⟨dx, h⟩, _, hy⟩ := R.sm (s1.trans s2) w
    exact ⟨r, C, dx, _, _, rfl, h, T.cl, T.ny, rdF_y _ _ _, q _ H2 s2 w2 hy⟩
/-- a row by its letter -/
theorem gd_row {c : Nat} (hr : Gv m ta σ H (.ref r)) (R : RAt K C H r A d ty) (w : Wm m H) {mg : Str → Option Value} (T : Txt K mg C) (hc : Gd K m tb σ H (.str (tx [c]))) (h : c ∈ A.ls) : Gd K m (tDGet (tFld K ta "own_moves") tb) σ H (rowD (A.row c)) :=
  gd_dget (k := ck c) (gv_fld_m hr R w T) hc R.mv w (.inr (noL_moves A)) (movesD_look h)
theorem rowD_get {l : List Nat} {i q : Nat} (h : l[i]? = some q) : (l.map fun q : Nat => PyData.int (q : Int))[i]? = some (.int (q : Int)) := by rw [List.getElem?_map, h]; rfl
theorem gd_mv {c i : Nat} (ok : A.Ok) (hr : Gv m ta σ H (.ref r)) (R : RAt K C H r A d ty) (w : Wm m H) {mg : Str → Option Value} (T : Txt K mg C) (hc : Gd K m tb σ H (.str (tx [c]))) (h : c ∈ A.ls) (hi : Gd K m te σ H (.int (i : Int))) (hin : i < A.n) :
    Gd K m (tOp (rIxT K) (tDGet (tFld K ta "own_moves") tb) te) σ H (.int (A.mv c i : Int)) :=
  gd_ixT (n := i) (gd_row hr R w T hc h) hi (rowD_get (row_get ok h hin)) (.inr (noL_row _))
/-- x in a row -/
theorem inV_row {l : List Nat} {q : Nat} : inV (V.int (q : Int)) (l.map fun q : Nat => V.int (q : Int)) = decide (q ∈ l) := by
  unfold inV
  induction l with
  | nil => rfl
  | cons a l ih =>
    rw [List.map_cons, List.any_cons, ih]
    have e : eqV (V.int (a : Int)) (V.int (q : Int)) = decide (q = a) := by
      show ((a : Int) == (q : Int)) = decide (q = a)
      by_cases h : q = a
      · subst h; simp
      · rw [decide_eq_false h]
        exact beq_eq_false_iff_ne.mpr (by omega)
    rw [e]
    by_cases h : q = a
    · subst h; simp
    · simp [h]
theorem flat_row {l : List Nat} : (l.map fun q : Nat => V.int (q : Int)).all flatV = true := by
  rw [List.all_eq_true]
  intro x hx
  obtain ⟨q, _, rfl⟩ := List.mem_map.mp hx
  rfl
theorem rows_inv {l : List Nat} {vs : List V} (h : DpAll K H vs (l.map fun q : Nat => PyData.int (q : Int))) : vs = l.map fun q : Nat => V.int (q : Int) := by
  have h2 : (l.map fun q : Nat => PyData.int (q : Int)) = (l.map fun q : Nat => (q : Int)).map PyData.int := by rw [List.map_map]; rfl
  rw [h2] at h
  rw [dps_ints_inv _ h, List.map_map]; rfl
theorem rd_inT {l : List Nat} {q : Nat} : Rd2 K m H (rIn K false) (.int (q : Int)) (rowD l) (.bool (decide (q ∈ l))) := fun x y H1 _ w hx hy Q k => by
  cases hx
  obtain ⟨a, xs, rfl, h1, h2⟩ := dp_tup hy
  rw [rows_inv h2] at h1
  refine ⟨a, _, rfl, .inr h1, rfl, flat_row, ?_⟩
  rw [if_neg (by simp), inV_row]
  exact k _ H1 (Sm.refl _ _) w (.bl _)
theorem rd_notInT {l : List Nat} {q : Nat} : Rd2 K m H (rIn K true) (.int (q : Int)) (rowD l) (.bool (!decide (q ∈ l))) := fun x y H1 _ w hx hy Q k => by
  cases hx
  obtain ⟨a, xs, rfl, h1, h2⟩ := dp_tup hy
  rw [rows_inv h2] at h1
  refine ⟨a, _, rfl, .inr h1, rfl, flat_row, ?_⟩
  rw [if_pos rfl, inV_row]
  exact k _ H1 (Sm.refl _ _) w (.bl _)
theorem rd_inL {l : List Nat} {q : Nat} : Rd2 K m H (rIn K false) (.int (q : Int)) (rowL l) (.bool (decide (q ∈ l))) := fun x y H1 _ w hx hy Q k => by
  cases hx
  obtain ⟨a, xs, rfl, h1, h2⟩ := dp_lst hy
  rw [rows_inv h2] at h1
  refine ⟨a, _, rfl, .inl h1, rfl, flat_row, ?_⟩
  rw [if_neg (by simp), inV_row]
  exact k _ H1 (Sm.refl _ _) w (.bl _)
theorem rd_notInL {l : List Nat} {q : Nat} : Rd2 K m H (rIn K true) (.int (q : Int)) (rowL l) (.bool (!decide (q ∈ l))) := fun x y H1 _ w hx hy Q k => by
  cases hx
  obtain ⟨a, xs, rfl, h1, h2⟩ := dp_lst hy
  rw [rows_inv h2] at h1
  refine ⟨a, _, rfl, .inl h1, rfl, flat_row, ?_⟩
  rw [if_pos rfl, inV_row]
  exact k _ H1 (Sm.refl _ _) w (.bl _)

/-! isinstance -/
theorem tyx_lst {a : Addr} {xs : List V} (h : SqL K H a xs) : TyX K H (.ref a) (.type "list") := by
  rcases h with (h | ⟨o, h⟩) | ⟨o, its, n, h, c, _⟩
  · exact .base (.lst h)
  · exact .base (.frz h)
  · exact .kList h c
theorem tyx_tup {a : Addr} {xs : List V} (h : SqT K H a xs) : TyX K H (.ref a) (.type "tuple") := by
  rcases h with (h | ⟨o, h⟩) | ⟨o, its, n, h, c, _⟩
  · exact .base (.tup h)
  · exact .fTuple h
  · exact .kTuple h c
/-- the built-in class of data -/
def tyD : PyData → String
  | .none => "NoneType"
  | .bool _ => "bool"
  | .int _ => "int"
  | .str _ => "str"
  | .tuple _ => "tuple"
  | .list _ => "list"
  | .dict _ => "dict"
theorem tyx_of {v : V} {d : PyData} (h : Dp K H v d) : TyX K H v (.type (tyD d)) := by
  cases h with
  | non => exact .base .non
  | bl b => exact .base (.bl b)
  | int i => exact .base (.int i)
  | str x => exact .base (.str x)
  | lst h _ => exact tyx_lst h
  | tup h _ => exact tyx_tup h
theorem gA_ty {n : String} : GetsA m (tCons (tC (.ty n)) tNil) σ H (fun vs _ => vs = [.ty n]) := gA_v gv_c gA_nil
/-- isinstance(x, n) of data -/
theorem gd_isi {d : PyData} {n : String} {b : Bool} (ha : Gd K m ta σ H d) (hb : kitB (tyD d) n = some b) : Gd K m (tCB (rIsi K) (tCons ta (tCons (tC (.ty n)) tNil))) σ H (.bool b) := fun H1 s1 w1 Q q =>
  ha H1 s1 w1 _ fun x H2 s2 w2 p => ⟨x, .ty n, .type (tyD d), .type n, b, rfl, .ty n, tyx_of p, kit_ty hb, q _ H2 s2 w2 (.bl b)⟩
end

/-! ### len and ~ of a reader -/
def rLenR (C : Addr) (sp : Sp) : List V → Hp → VK → Prop := fun xs H Q => ∃ a dx fs, xs = [.ref a] ∧ H a = some (.ins C dx fs) ∧ sp [.ref a] H (fun v H2 => ∃ n : Nat, v = .int (n : Int) ∧ n < 1000 ∧ Q (.int (n : Int)) H2) E0
theorem call_lenR {X : Cx} {C f : Addr} {fd : FuncData} {k : Nat} {sp : Sp} (hs : PySem.W.findIn X.K (.ref C) "__len__" = some (some (.ref f))) (hf : PySem.W.isFn X.K (.ref f) = true) (F : FnOk X.prog X.w X.K X.mg X.base CX0 k f fd ["self"] sp) (hr : Room (k + 1) X.A) (hb : Binds X.K fd ["self"] []) :
    CallR X (.builtin "len") (rLenR C sp) := by
  intro pins s σ H xs us Q I r h
  obtain ⟨a, dx, fs, rfl, ha, hsp⟩ := h
  cases r with
  | cons r1 r2 =>
    cases r2
    cases r1
    obtain ⟨mA, J, _⟩ := ins_get I.hok ha
    obtain ⟨od, J, _⟩ := J.look
    obtain ⟨m, hF⟩ := I.fr
    refine PySem.W.len_K hF I.ok.mod.kin J hs hf ?_
    have e0 : Env0 X.prog X.w X.K X.mg X.base X.A.in1 X.stack s H := I.env0.in1
    have r3 : Vals [V.ref a] [Value.ref a] := .cons rfl .nil
    refine wpAny_call (codeAny_mono (F.run X.A.in1 X.stack s H ⟨[.ref a], []⟩ [.ref a] [.ref a] _ E0 hr.in1 e0 (by
      have := hb s [.ref a] I.kIn (by simp)
      simpa using this) r3 hsp) fun r s' hq => ?_)
    cases r with
    | error e => exact hq.elim
    | ok fl =>
      cases fl with
      | ret w =>
        obtain ⟨z, H', I', rz, n, ez, hn, q⟩ := I.after hq
        subst ez
        obtain ⟨t, rfl⟩ := rz
        refine ⟨⟨by omega, by omega⟩, .int (n : Int), H', I'.tok _, ⟨_, rfl⟩, q⟩
      | next => exact False.elim hq
      | brk => exact False.elim hq
      | cont => exact False.elim hq
def rInvR (C : Addr) (sp : Sp) : V → Hp → VK → Prop := fun x H Q => ∃ a dx fs, x = .ref a ∧ H a = some (.ins C dx fs) ∧ sp [.ref a] H Q E0
theorem un_invR {X : Cx} {C f : Addr} {fd : FuncData} {k : Nat} {sp : Sp} (hs : PySem.W.findIn X.K (.ref C) "__invert__" = some (some (.ref f))) (hf : PySem.W.isFn X.K (.ref f) = true) (F : FnOk X.prog X.w X.K X.mg X.base CX0 k f fd ["self"] sp) (hr : Room k X.A) (hb : Binds X.K fd ["self"] []) :
    UnR X (unaryOp .Invert) (rInvR C sp) := by
  intro pins s σ H x v Q I r h
  obtain ⟨a, dx, fs, rfl, ha, hsp⟩ := h
  cases r
  obtain ⟨mA, J, _⟩ := ins_get I.hok ha
  obtain ⟨od, J, _⟩ := J.look
  obtain ⟨m, hF⟩ := I.fr
  refine PySem.W.ksp_inv hF I.ok.mod.kin J hs hf ?_
  exact run_fn (us := [.ref a]) (vs := [.ref a]) F hr hb .nil pass0 I (.cons rfl .nil) (by simpa using hsp)
end K29
namespace K29
open PySem L2

/-! statements -/
section
variable {K : PySem.W.Frag} {σ : L2.St} {H : Hp} {te ta tb : TE} {tt : TT} {u tu tw : TS} {D : Ends} {P : V → Hp → Prop} {i : Nat}
theorem r_asg (h : Gets [] te σ H P) (k : ∀ v H1, Sm [] H H1 → P v H1 → D.nx (σ.set i (some v)) H1) : tAsg te (gName i) D σ H := h.go k
theorem rq_asg (h : Gets [] te σ H P) (k : ∀ v H1, Sm [] H H1 → P v H1 → u D (σ.set i (some v)) H1) : tSeq (tAsg te (gName i)) u D σ H := h.go (Q := fun v H1 => u D (σ.set i (some v)) H1) k
theorem r_ret (h : Gets [] te σ H P) (k : ∀ v H1, Sm [] H H1 → P v H1 → D.rt v H1) : tRet te D σ H := h.go k
theorem r_drop (h : Gets [] te σ H P) (k : ∀ v H1, Sm [] H H1 → P v H1 → D.nx σ H1) : tDrop te D σ H := h.go k
theorem rq_drop (h : Gets [] te σ H P) (k : ∀ v H1, Sm [] H H1 → P v H1 → u D σ H1) : tSeq (tDrop te) u D σ H := h.go (Q := fun _ H1 => u D σ H1) k
theorem GetsT.go {b : Bool} (h : GetsT [] tt σ H b) {Q : Bool → Hp → Prop} (k : ∀ H1, Sm [] H H1 → Q b H1) : tt σ H Q := h H (Sm.refl _ _) Wm.nil Q fun H1 s _ => k H1 s
theorem r_if {b : Bool} (h : GetsT [] tt σ H b) (h1 : b = true → ∀ H1, Sm [] H H1 → tu D σ H1) (h2 : b = false → ∀ H1, Sm [] H H1 → tw D σ H1) : tIfS tt tu tw D σ H := h.go (Q := fun b H1 => if b = true then tu D σ H1 else tw D σ H1) fun H1 s => by
  cases b with
  | true => exact iteT (h1 rfl H1 s)
  | false => exact iteF (h2 rfl H1 s)
theorem rq_if {b : Bool} (h : GetsT [] tt σ H b) (h1 : b = true → ∀ H1, Sm [] H H1 → tu { D with nx := u D } σ H1) (h2 : b = false → ∀ H1, Sm [] H H1 → tw { D with nx := u D } σ H1) : tSeq (tIfS tt tu tw) u D σ H := r_if (D := { D with nx := u D }) h h1 h2
/-- an if that is not entered -/
theorem rq_not (h : GetsT [] tt σ H false) (k : ∀ H1, Sm [] H H1 → u D σ H1) : tSeq (tIfS tt tu tNext) u D σ H := rq_if h (fun e => by cases e) fun _ H1 s => k H1 s
end

theorem kb_ii : kitB "int" "int" = some true := by decide +kernel
theorem kb_ib : kitB "int" "bool" = some false := by decide +kernel
theorem kb_ss : kitB "str" "str" = some true := by decide +kernel
theorem kb_ns : kitB "NoneType" "str" = some false := by decide +kernel
theorem kb_tt : kitB "tuple" "tuple" = some true := by decide +kernel
theorem kb_lt : kitB "list" "tuple" = some false := by decide +kernel
theorem kb_nt : kitB "NoneType" "tuple" = some false := by decide +kernel
theorem kb_it : kitB "int" "tuple" = some false := by decide +kernel
theorem kb_dt : kitB "dict" "tuple" = some false := by decide +kernel
theorem kb_dd : kitB "dict" "dict" = some true := by decide +kernel
/-- what a promise hands back: data, all else as it stood -/
def Gives (K : PySem.W.Frag) (H : Hp) (Q : VK) (d : PyData) : Prop := ∀ v H', Sm [] H H' → Dp K H' v d → Q v H'
theorem Gives.go {K : PySem.W.Frag} {H H1 H2 : Hp} {Q : VK} {d : PyData} {v : V} (g : Gives K H Q d) (s : Sm [] H H1) (h : Dp K H1 v d) : Q v H1 := g v H1 s h

section
variable {P : Program} {w : World} {K : PySem.W.Frag} {mg : Str → Option Value} {base : Heap} {f C : Addr} {fd : FuncData}

/-! is_integer -/
abbrev N_is_integer : List Str := ["value"]
theorem sc_is_integer : FnScope N_is_integer ["value"] (defScope s_is_integer) := ⟨rfl, rfl, rfl, by decide +kernel, rfl, by decide +kernel, by decide +kernel⟩
def sp_is_integer (K : PySem.W.Frag) : Sp := fun vs H Q _ => ∃ n : Int, vs = [.int n] ∧ -(10 ^ 200 - 1) ≤ n ∧ n ≤ 10 ^ 200 - 1 ∧ Gives K H Q (.bool true)
theorem ok_is_integer (F : Fun K "is_integer" "is_integer" s_is_integer f fd) (T : Txt K mg C) : FnOk P w K mg base CX0 1 f fd ["value"] (sp_is_integer K) := by
  refine F.ok sc_is_integer (fun vs H Q E h => ?_) (fun cdv A outer s H vs Q E hr h => ?_)
  · obtain ⟨n, rfl, _⟩ := h
    rfl
  · obtain ⟨n, rfl, h1, h2, q⟩ := h
    have nd := sc_is_integer.nd
    refine ⟨_, (pss_one (ps_ret (pe_and (pe_callB call_isi (by rfl) T.isinstance (by decide +kernel) (pa_cons (pv 0) (pa_cons (pe_ty (n := "int") (by rfl) T.int (by decide +kernel)) pa_nil))) (pe_and (pe_not (pe_callB call_isi (by rfl) T.isinstance (by decide +kernel) (pa_cons (pv 0) (pa_cons (pe_ty (n := "bool") (by rfl) T.bool (by decide +kernel)) pa_nil)))) (pe_one (pe_chain op_le op_le (pe_un un_neg (pe_gi rfl T.GREATEST)) (pv 0) (pe_gi rfl T.GREATEST))))))), ?_⟩
    have e1 : decide (-(10 ^ 200 - 1 : Int) ≤ n) = true := decide_eq_true h1
    have e2 : decide (n ≤ (10 ^ 200 - 1 : Int)) = true := decide_eq_true h2
    have hneg : Gd K [] (tUn (rU fun i => .int (-i)) (tC (.int (10 ^ 200 - 1)))) (start N_is_integer [.int n]) H (.int (-(10 ^ 200 - 1))) := fun H1 _ w1 Q q => ⟨_, rfl, q _ H1 (Sm.refl _ _) w1 (.int _)⟩
    refine r_ret (gd_andV (gd_isi (gd_vi rfl) kb_ii) fun _ => gd_andV (gd_notV (gd_isi (gd_vi rfl) kb_ib)) fun _ => gd_chain hneg (gd_vi (n := n) rfl) (rd_I0 fun _ => .bl _) (fun _ => gd_i) (fun _ => rd_I0 fun _ => .bl _)) fun v H1 s1 p => q v H1 s1 ?_
    rw [e1, e2] at p
    exact p

/-! is_integer_within -/
abbrev N_is_integer_within : List Str := ["value", "low", "high"]
theorem sc_is_integer_within : FnScope N_is_integer_within ["value", "low", "high"] (defScope s_is_integer_within) := ⟨rfl, rfl, rfl, by decide +kernel, rfl, by decide +kernel, by decide +kernel⟩
def sp_is_integer_within (K : PySem.W.Frag) : Sp := fun vs H Q _ => ∃ n lo hi : Int, vs = [.int n, .int lo, .int hi] ∧ -(10 ^ 200 - 1) ≤ n ∧ n ≤ 10 ^ 200 - 1 ∧ Gives K H Q (.bool (decide (lo ≤ n) && decide (n ≤ hi)))
theorem ok_is_integer_within (F : Fun K "is_integer_within" "is_integer_within" s_is_integer_within f fd) (T : Txt K mg C) (Gis_integer : Ok1 P w K mg base "is_integer" ["value"] 1 (sp_is_integer K)) : FnOk P w K mg base CX0 2 f fd ["value", "low", "high"] (sp_is_integer_within K) := by
  refine F.ok sc_is_integer_within (fun vs H Q E h => ?_) (fun cdv A outer s H vs Q E hr h => ?_)
  · obtain ⟨n, lo, hi, rfl, _⟩ := h
    rfl
  · obtain ⟨n, lo, hi, rfl, h1, h2, q⟩ := h
    have nd := sc_is_integer_within.nd
    refine ⟨_, (pss_one (ps_ret (pe_and (pe_callP Gis_integer hr (by rfl) (pa_cons (pv 0) pa_nil)) (pe_one (pe_chain op_le op_le (pv 1) (pv 0) (pv 2)))))), ?_⟩
    refine r_ret (gd_andV (a := true) (gd_call (gA_v (gv_var rfl) gA_nil) fun vs H1 s1 w1 p Q k => ?_) fun _ => gd_chain (gd_vi (n := lo) rfl) (gd_vi (n := n) rfl) (rd_I0 fun _ => .bl _) (fun _ => gd_vi (n := hi) rfl) (fun _ => rd_I0 fun _ => .bl _)) fun v H1 s1 p => q v H1 s1 (by simpa using p)
    subst p
    exact ⟨n, rfl, h1, h2, fun v H2 s2 p2 => k v H2 s2 Wm.nil p2⟩

/-! are_small -/
theorem codes_a : (("a" : Str)).cps.toList = [97] := by decide +kernel
theorem codes_z : (("z" : Str)).cps.toList = [122] := by decide +kernel
theorem lt1 (a b : Nat) : decide (([a] : List Nat) < [b]) = decide (a < b) := by
  by_cases h : a < b
  · rw [decide_eq_true h]
    exact decide_eq_true (List.cons_lt_cons_iff.mpr (.inl h))
  · rw [decide_eq_false h]
    refine decide_eq_false fun q => ?_
    rcases List.cons_lt_cons_iff.mp q with q | ⟨_, q⟩
    · exact h q
    · exact absurd q (by simp)
theorem rd_leS {m : List Addr} {H : Hp} {i j : Str} {b : Bool} (hb : (!decide (j.cps.toList < i.cps.toList)) = b) : Rd2 K m H (fun x y H Q => ∃ i j, x = V.str i ∧ y = V.str j ∧ Q (.bl (!decide (j.cps.toList < i.cps.toList))) H) (.str i) (.str j) (.bool b) := fun x y H1 _ w hx hy Q q => by
  cases hx; cases hy
  exact ⟨i, j, rfl, rfl, q _ H1 (Sm.refl _ _) w (by rw [hb]; exact .bl _)⟩
theorem rd_ltS {m : List Addr} {H : Hp} {i j : Str} {b : Bool} (hb : decide (i.cps.toList < j.cps.toList) = b) : Rd2 K m H (fun x y H Q => ∃ i j, x = V.str i ∧ y = V.str j ∧ Q (.bl (decide (i.cps.toList < j.cps.toList))) H) (.str i) (.str j) (.bool b) := fun x y H1 _ w hx hy Q q => by
  cases hx; cases hy
  exact ⟨i, j, rfl, rfl, q _ H1 (Sm.refl _ _) w (by rw [hb]; exact .bl _)⟩
theorem all_true (n : Nat) : ((List.range n).map fun _ => true).all id = true := by simp
abbrev N_are_small : List Str := ["text", "sign"]
theorem sc_are_small : FnScope N_are_small ["text"] (defScope s_are_small) := ⟨rfl, rfl, rfl, by decide +kernel, rfl, by decide +kernel, by decide +kernel⟩
def sp_are_small (K : PySem.W.Frag) : Sp := fun vs H Q _ => ∃ l : List Nat, vs = [.str (tx l)] ∧ (∀ c ∈ l, 97 ≤ c ∧ c ≤ 122) ∧ l.length ≤ 10000 ∧ Gives K H Q (.bool true)
theorem ok_are_small (F : Fun K "are_small" "are_small" s_are_small f fd) (T : Txt K mg C) : FnOk P w K mg base CX0 1 f fd ["text"] (sp_are_small K) := by
  refine F.ok sc_are_small (fun vs H Q E h => ?_) (fun cdv A outer s H vs Q E hr h => ?_)
  · obtain ⟨l, rfl, _⟩ := h
    rfl
  · obtain ⟨l, rfl, hl, hz, q⟩ := h
    have nd := sc_are_small.nd
    refine ⟨_, (pss_one (ps_ret (pe_callB (cr_all rfl) (by rfl) T.all (by decide +kernel) (pa_cons (pe_lc (own := [("sign", 1)]) rfl nd (pi_str (pv 0)) (blkOk_by (N := N_are_small) (sc := defScope s_are_small) (by decide +kernel)) (fun _ _ _ _ _ => (pg_name (i := 1) nd rfl (.inl rfl))) (fun _ _ _ _ _ => pts_nil) (fun _ _ _ _ _ => (pe_chain op_le_str op_le_str pe_str (pv 1) pe_str))) pa_nil)))), ?_⟩
    refine r_ret (gd_all (bs := (List.range l.length).map fun _ => true) (ga_cons (Gets.is (gd_lc1 (fun _ => .bool true) (src_str (gd_vs rfl)) (by omega) fun i x H' hi s w hx => ?_) (by rw [List.map_map]; rfl)) ga_nil)) fun v H1 s1 p => q v H1 s1 (by rw [all_true] at p; exact p)
    have hc : l.getD i 0 ∈ l := by rw [getD_of hi]; exact List.getElem_mem hi
    have hcc := hl _ hc
    cases dp_str hx
    generalize l.getD i 0 = c at *
    refine gd_chain (a := true) (b := true) gd_s (gd_vs rfl) (rd_leS ?_) (fun _ => gd_s) (fun _ => rd_leS ?_)
    · rw [codes_a, tx_list, lt1]; simp; omega
    · rw [codes_z, tx_list, lt1]; simp; omega

/-! is_text_within -/
theorem tx_eta (z : Str) : tx z.cps.toList = z := by cases z; simp [tx]
def inText (ls : List Nat) : PyData → Bool
  | .str z => decide (z.length ≤ 4000) && z.cps.toList.all fun c => decide (c ∈ ls)
  | _ => false
theorem gd_lenStr {m : List Addr} {σ : L2.St} {H : Hp} {ta : TE} {z : Str} (ha : Gd K m ta σ H (.str z)) (hz : z.length ≤ 100000) : Gd K m (tCB (fun xs H Q => ∃ z, xs = [V.str z] ∧ z.length ≤ sizeLine ∧ Q (.int z.length) H) (tCons ta tNil)) σ H (.int (z.length : Int)) := fun H1 s1 w1 Q q =>
  ha H1 s1 w1 _ fun v H2 s2 w2 p => by
    cases p
    exact ⟨z, rfl, Nat.le_trans hz (by decide), q _ H2 s2 w2 (.int _)⟩
theorem rd_inSign {m : List Addr} {H : Hp} {c : Nat} {l : List Nat} : Rd2 K m H (fun x y H Q => ∃ (c : Nat) (z : Str), x = V.str ⟨#[c]⟩ ∧ y = V.str z ∧ Q (.bl (decide (c ∈ z.cps.toList))) H) (.str (tx [c])) (.str (tx l)) (.bool (decide (c ∈ l))) := fun x y H1 _ w hx hy Q q => by
  cases hx; cases hy
  refine ⟨c, tx l, rfl, rfl, ?_⟩
  rw [tx_list]
  exact q _ H1 (Sm.refl _ _) w (.bl _)
theorem rd_notInSign {m : List Addr} {H : Hp} {c : Nat} {l : List Nat} : Rd2 K m H (fun x y H Q => ∃ (c : Nat) (z : Str), x = V.str ⟨#[c]⟩ ∧ y = V.str z ∧ Q (.bl (!decide (c ∈ z.cps.toList))) H) (.str (tx [c])) (.str (tx l)) (.bool (!decide (c ∈ l))) := fun x y H1 _ w hx hy Q q => by
  cases hx; cases hy
  refine ⟨c, tx l, rfl, rfl, ?_⟩
  rw [tx_list]
  exact q _ H1 (Sm.refl _ _) w (.bl _)
theorem all_range {α : Type} (l : List α) (dflt : α) (g : α → Bool) : ((List.range l.length).map fun i => g (l.getD i dflt)).all id = l.all g := by
  have : (List.range l.length).map (fun i => g (l.getD i dflt)) = l.map g := by
    refine List.ext_getElem (by simp) fun i h1 h2 => ?_
    simp at h1 h2
    simp [List.getD_eq_getElem?_getD, h1]
  rw [this, List.all_map]
  rfl
abbrev N_is_text_within : List Str := ["letters", "value", "sign"]
theorem sc_is_text_within : FnScope N_is_text_within ["letters", "value"] (defScope s_is_text_within) := ⟨rfl, rfl, rfl, by decide +kernel, rfl, by decide +kernel, by decide +kernel⟩
def sp_is_text_within (K : PySem.W.Frag) : Sp := fun vs H Q _ => ∃ (ls : List Nat) (v : V) (d : PyData), vs = [.str (tx ls), v] ∧ Dp K H v d ∧ (d = .none ∨ ∃ z : Str, d = .str z ∧ z.length ≤ 10000) ∧ Gives K H Q (.bool (inText ls d))
theorem ok_is_text_within (F : Fun K "is_text_within" "is_text_within" s_is_text_within f fd) (T : Txt K mg C) : FnOk P w K mg base CX0 1 f fd ["letters", "value"] (sp_is_text_within K) := by
  refine F.ok sc_is_text_within (fun vs H Q E h => ?_) (fun cdv A outer s H vs Q E hr h => ?_)
  · obtain ⟨ls, v, d, rfl, _⟩ := h
    rfl
  · obtain ⟨ls, v, d, rfl, hv, hd, q⟩ := h
    have nd := sc_is_text_within.nd
    refine ⟨_, (pss_one (ps_ret (pe_and (pe_callB call_isi (by rfl) T.isinstance (by decide +kernel) (pa_cons (pv 1) (pa_cons (pe_ty (n := "str") (by rfl) T.str (by decide +kernel)) pa_nil))) (pe_and (pe_cmpR op_le (pe_callB call_len_str (by rfl) T.len PySem.boot_len (pa_cons (pv 1) pa_nil)) (pe_gi rfl T.MAX_TEXT) (nomark _)) (pe_one (pe_callB (cr_all rfl) (by rfl) T.all (by decide +kernel) (pa_cons (pe_lc (own := [("sign", 2)]) rfl nd (pi_str (pv 1)) (blkOk_by (N := N_is_text_within) (sc := defScope s_is_text_within) (by decide +kernel)) (fun _ _ _ _ _ => (pg_name (i := 2) nd rfl (.inl rfl))) (fun _ _ _ _ _ => pts_nil) (fun _ _ _ _ _ => (pe_cmpR op_in_sign (pv 2) (pv 0) (by rfl)))) pa_nil))))))), ?_⟩
    rcases hd with rfl | ⟨z, rfl, hz⟩
    · refine r_ret (gd_andV (a := false) (b := true) (gd_isi (gd_var rfl Wm.nil hv) kb_ns) fun e => by cases e) fun v H1 s1 p => q v H1 s1 p
    · cases dp_str hv
      have ez : z = tx z.cps.toList := (tx_eta z).symm
      have el : z.length = z.cps.toList.length := by simp [Str.length]
      refine r_ret (gd_andV (a := true) (b := decide (z.length ≤ 4000) && z.cps.toList.all fun c => decide (c ∈ ls)) (gd_isi (gd_vs rfl) kb_ss) fun _ => gd_andV ?_ fun _ => ?_) fun v H1 s1 p => q v H1 s1 (by rw [Bool.true_and] at p; exact p)
      · refine Gets.is (gd_le (gd_lenStr (gd_vs rfl) (by omega)) gd_i) ?_
        congr 1
        exact decide_eq_decide.mpr (by omega)
      · refine Gets.is (gd_all (bs := (List.range z.cps.toList.length).map fun i => decide (z.cps.toList.getD i 0 ∈ ls)) (ga_cons (Gets.is (gd_lc1 (fun i => .bool (decide (z.cps.toList.getD i 0 ∈ ls))) (src_str (l := z.cps.toList) (gd_of (gv_var rfl) fun _ _ _ => by rw [← ez]; exact .str z)) (by omega) fun i x H' hi s w hx => ?_) (by rw [List.map_map]; rfl)) ga_nil)) ?_
        · cases dp_str hx
          exact gd_op (gd_vs rfl) (gd_vs rfl) rd_inSign
        · congr 1
          exact all_range z.cps.toList 0 fun c => decide (c ∈ ls)
end
end K29
/-! for a, b in zip(text, text) -/
namespace K29
open PySem PySem.Spec PyProof.Rows L2

def ItzS (x y : Str) : It :=
  ⟨fun i _ => i < min x.cps.size y.cps.size, fun i H v H' => ∃ T c d, v = .ref T ∧ H T = none ∧ H' = upd H T (.tup [.str ⟨#[c]⟩, .str ⟨#[d]⟩]) ∧ x.cps[i]? = some c ∧ y.cps[i]? = some d, fun i _ => min x.cps.size y.cps.size ≤ i⟩
theorem turn_zipS {P : Program} {w : World} {K : PySem.W.Frag} {elts : List Expr} {kk : Nat} {tpos : Pos} {x y : Str} {t u : Tok} {z TI TO i1 i2 : Addr} (S : ZipSep2 z TI TO i1 i2 [i1] [i2]) :
    Turn P w K (.Tuple elts kk tpos) (ItzS x y) (z :: TI :: TO :: ([i1] ++ [i2])) z
      (fun i h => i ≤ min x.cps.size y.cps.size ∧ IsZip h z TI TO .none ∧ IsTupOf2 h TI (.ref i1) (.ref i2) ∧ (∃ a1 a2, IsTupOf2 h TO a1 a2) ∧ h.IsStrIter i1 (strIterType x) x t i ∧ h.IsStrIter i2 (strIterType y) y u i) where
  mem := by simp
  obj := fun i h st c hc => by
    obtain ⟨_, hz, hTI, ⟨a1, a2, hTO⟩, ⟨o1, e1, _, d1⟩, ⟨o2, e2, _, d2⟩⟩ := st
    have e' : c = z ∨ c = TI ∨ c = TO ∨ c = i1 ∨ c = i2 := by simpa using hc
    rcases e' with q | q | q | q | q
    · rw [q]; exact ⟨_, hz, fun v q => nomatch q⟩
    · rw [q]; exact ⟨_, hTI, fun v q => nomatch q⟩
    · rw [q]; exact ⟨_, hTO, fun v q => nomatch q⟩
    · rw [q]; exact ⟨o1, e1, fun v q => by rw [d1] at q; cases q⟩
    · rw [q]; exact ⟨o2, e2, fun v q => by rw [d2] at q; cases q⟩
  keep := fun i h h' st k => by
    obtain ⟨hi, hz, hTI, ⟨a1, a2, hTO⟩, h1, h2⟩ := st
    exact ⟨hi, k z (by simp) _ hz, k TI (by simp) _ hTI, ⟨a1, a2, k TO (by simp) _ hTO⟩, let ⟨o, e, r⟩ := h1; ⟨o, k i1 (by simp) o e, r⟩, let ⟨o, e, r⟩ := h2; ⟨o, k i2 (by simp) o e, r⟩⟩
  item := by
    intro X hP hw hK hc i pins s σ H E I hf st hg
    subst hP hw hK
    have hg' : i < min x.cps.size y.cps.size := hg
    have W := WalksT.zipD2 (prog := X.prog) (w := X.w) (A := X.A) S (Draws.text (A := X.A.in1) (I.ok.hd hc) i1 x t) (Draws.text (A := X.A.in1) (I.ok.hd hc) i2 y u)
    refine W.item i s _ _ hg' st.2 fun T vals h' tk hv hT hIT hm hk => ?_
    obtain ⟨x1, x2, ⟨c, t1, hc1, rfl⟩, ⟨d, t2, hd1, rfl⟩, rfl⟩ := hv
    refine ⟨_, rfl, W.go elts kk tpos i T { s with heap := h', toks := tk } _ _ hm fun h'' st'' hk'' => ?_⟩
    have hTw := W.apart i T h' hm
    have hIT'' : h''.IsTuple T #[Value.str ⟨#[c]⟩ t1, Value.str ⟨#[d]⟩ t2] := by
      obtain ⟨o, e1, e2, n, e3⟩ := hIT
      exact ⟨o, hk'' T o hTw e1, e2, n, e3⟩
    have new : ObjOk X.prog X.w (upd H T (.tup [.str ⟨#[c]⟩, .str ⟨#[d]⟩])) h'' T (.tup [.str ⟨#[c]⟩, .str ⟨#[d]⟩]) :=
      ⟨by show 2 ≤ sizeLine; decide, [Value.str ⟨#[c]⟩ t1, Value.str ⟨#[d]⟩ t2], .cons ⟨t1, rfl⟩ (.cons ⟨t2, rfl⟩ .nil), hIT''⟩
    have I1 : Inv X pins σ (upd H T (.tup [.str ⟨#[c]⟩, .str ⟨#[d]⟩])) { s with heap := h'', toks := tk } :=
      I.turnedNew (t' := tk) (ch := z :: TI :: TO :: ([i1] ++ [i2])) (fun b o hb q => hk'' b o (fun q' => hb (W.sub b q')) (hk b o (fun q' => hb (W.sub b q')) q)) hf hT new
    refine ⟨.ref T, _, I1, rfl, ⟨T, c, d, rfl, I.hok.fresh hT, rfl, hc1, hd1⟩, ⟨by omega, st''⟩, fun b hb => ?_⟩
    have hlt : b < s.heap.objs.size := by
      obtain ⟨_, hz, hTI, ⟨a1, a2, hTO⟩, ⟨o1, e1, _⟩, ⟨o2, e2, _⟩⟩ := st
      have e' : b = z ∨ b = TI ∨ b = TO ∨ b = i1 ∨ b = i2 := by simpa using hb
      rcases e' with q | q | q | q | q
      · rw [q]; exact Heap.lt_size hz
      · rw [q]; exact Heap.lt_size hTI
      · rw [q]; exact Heap.lt_size hTO
      · rw [q]; exact Heap.lt_size e1
      · rw [q]; exact Heap.lt_size e2
    rw [upd_ne (Nat.ne_of_lt (Nat.lt_of_lt_of_le hlt hT))]
    exact (hf b hb).1
  done := by
    intro X hP hw hK hc i pins s σ H E I hf st hg
    subst hP hw hK
    have hg' : min x.cps.size y.cps.size ≤ i := hg
    have ei : i = min x.cps.size y.cps.size := Nat.le_antisymm st.1 hg'
    subst ei
    have W := WalksT.zipD2 (prog := X.prog) (w := X.w) (A := X.A) S (Draws.text (A := X.A.in1) (I.ok.hd hc) i1 x t) (Draws.text (A := X.A.in1) (I.ok.hd hc) i2 y u)
    refine W.done s _ _ st.2 fun h' tk hk => ⟨rfl, ?_⟩
    exact I.turnedL (t' := tk) (ch := z :: TI :: TO :: ([i1] ++ [i2])) (fun c o hb q => hk c o (fun q' => hb (W.sub c q')) q) hf
  self := fun A i s Q E st h => wpAny_pyIter_zip st.2.1 h
def iZipS (ta : TA) : TI := fun σ H R => ta σ H fun vs H1 => ∃ x y, vs = [.str x, .str y] ∧ R (ItzS x y) H1
theorem pi_zipS {X : Cx} {e e2 : Expr} {ta : TA} {p pos tpos : Pos} {elts : List Expr} {kk : Nat} (hg : Gl X "zip") (hm : X.mg "zip" = none) (ha : PA X [e, e2] ta)
    (hs : starEach [e, e2] X.env = (false, eval e X.env) :: starEach [e2] X.env := by rfl) (hpl : (backTo pos (starEach [e2] X.env)).any (·.1) = false := by rfl) :
    PI X (.Tuple elts kk tpos) (.Call (.Name "zip" p) [e, e2] [] pos) (iZipS ta) := by
  refine ⟨fun pins s σ H R I h => ?_⟩
  refine Call_ (ld_blt I hg hm PyProof.Rows.boot_zip (PyProof.Rows.callWith_type1 (thn (ha.run pos pins s σ H _ I h) fun us s1 ⟨vs, H1, I1, r1, q1⟩ => ?_) hs hpl))
  obtain ⟨x, y, ex, q⟩ := q1
  subst ex
  cases r1 with
  | cons r rr =>
    cases rr with
    | cons r' rr =>
      cases rr
      obtain ⟨t, rfl⟩ := r
      obtain ⟨u, rfl⟩ := r'
      have fresh5 : ∀ c, s1.heap.objs.size ≤ c → FpOk X pins H1 c := fun c hle => I1.fpOk hle (I1.hok.fresh hle)
      refine zip_begins2 (begins_text x t) (begins_text y u) trivial trivial fun h' hz hTI hTO h1 h2 hsz hk => wpAny_pyIter_zip hz ?_
      have I2 : Inv X pins σ H1 { s1 with heap := h' } := I1.kept (t' := s1.toks) hk
      have S : ZipSep2 (s1.heap.objs.size + 4) (s1.heap.objs.size + 2) (s1.heap.objs.size + 3) s1.heap.objs.size (s1.heap.objs.size + 1) [s1.heap.objs.size] [s1.heap.objs.size + 1] := by
        generalize s1.heap.objs.size = n
        have key : ∀ n : Nat, ZipSep2 (n + 4) (n + 2) (n + 3) n (n + 1) [n] [n + 1] := fun n => by
          constructor <;> first | (simp; done) | (simp; omega) | omega
        exact key n
      refine ⟨s1.heap.objs.size + 4, _, _, ItzS x y, H1, rfl, I2, turn_zipS (t := t) (u := u) S, ⟨Nat.zero_le _, hz, hTI, ⟨_, _, hTO⟩, ⟨_, h1, rfl, rfl⟩, ⟨_, h2, rfl, rfl⟩⟩, fun c hc => fresh5 c ?_, q⟩
      have e' : c = s1.heap.objs.size + 4 ∨ c = s1.heap.objs.size + 2 ∨ c = s1.heap.objs.size + 3 ∨ c = s1.heap.objs.size ∨ c = s1.heap.objs.size + 1 := by simpa using hc
      rcases e' with z | z | z | z | z
      · rw [z]; exact Nat.le_add_right _ _
      · rw [z]; exact Nat.le_add_right _ _
      · rw [z]; exact Nat.le_add_right _ _
      · rw [z]; exact Nat.le_refl _
      · rw [z]; exact Nat.le_add_right _ _
theorem src_zipS {K : PySem.W.Frag} {m : List Addr} {σ : L2.St} {H : Hp} {t : TA} {a b : List Nat} {n : Nat} (h : Ga K m t σ H [.str (tx a), .str (tx b)]) (hn : n = min a.length b.length) :
    Src2 K m (iZipS t) σ H n (fun i => .str (tx [a.getD i 0])) (fun i => .str (tx [b.getD i 0])) := fun H1 s1 w1 R q =>
  h H1 s1 w1 _ fun vs H2 s2 w2 p => by
    cases p with
    | cons p1 p2 =>
      cases p2 with
      | cons p2 p3 =>
        cases p3; cases p1; cases p2
        have e1 : (tx a).cps.size = a.length := by simp [tx]
        have e2 : (tx b).cps.size = b.length := by simp [tx]
        refine ⟨tx a, tx b, rfl, q _ H2 (fun _ => True) (fun i H v H' => ∃ T c d, v = .ref T ∧ H T = none ∧ H' = upd H T (.tup [.str ⟨#[c]⟩, .str ⟨#[d]⟩]) ∧ (tx a).cps[i]? = some c ∧ (tx b).cps[i]? = some d) s2 w2 ?_ (fun _ _ _ => trivial) fun i v H' H'' hi _ _ y => ?_⟩
        · refine ⟨fun i _ hi _ => ?_, fun _ _ => ?_, fun _ _ _ _ _ _ y => y⟩
          · show i < min (tx a).cps.size (tx b).cps.size
            rw [e1, e2]; omega
          · show min (tx a).cps.size (tx b).cps.size ≤ n
            rw [e1, e2]; omega
        · obtain ⟨T, c, d, rfl, hT, rfl, hc, hd⟩ := y
          have ec : c = a.getD i 0 := by
            have h2 : a[i]? = some c := by simpa [tx] using hc
            rw [List.getD_eq_getElem?_getD, h2]; rfl
          have ed : d = b.getD i 0 := by
            have h2 : b[i]? = some d := by simpa [tx] using hd
            rw [List.getD_eq_getElem?_getD, h2]; rfl
          refine ⟨T, _, _, rfl, hT, rfl, ?_, ?_⟩
          · rw [ec]; exact .str _
          · rw [ed]; exact .str _
end K29
namespace K29
open PySem PySem.Spec PyProof.Rows L2

/-- a tuple as a target, the written part told -/
theorem pg_tupK {X : Cx} {es : List Expr} {k n : Nat} {t : TGs} {pos : Pos} {K : PySem.W.Frag} (hc : X.calm = true) (h : PGs X es t) (hn : (assignEach es X.env).length = n := by rfl) (hst : (assignEach es X.env).findIdx? (·.1) = none := by rfl) (hK : X.K = K := by rfl) : PG X (.Tuple es k pos) (gTup K n t) := hK ▸ pg_tup hc h hn hst
/-! list(d.values()) -/
def tListVals (te : TE) : TE := fun σ H Q => te σ H fun x H1 => ∃ d kvs, x = .ref d ∧ H1 d = some (.dK kvs) ∧ ∀ q, H1 q = none → Q (.ref q) (upd H1 q (.lst (kvs.map (·.2))))
theorem pe_listVals {X : Cx} {e : Expr} {te : TE} {p apos cpos pos : Pos} (hc : X.calm = true) (he : PE X e te) (hg : Gl X "list") (hm : X.mg "list" = none) (hv : bootBuiltins "list" = some (.type "list") := by decide +kernel) (hbase : attributeBase e "values" X.env (eval e X.env) = eval e X.env := by rfl) (hline : (apos.endLine == cpos.line) = true := by rfl)
    (hs : starEach [.Call (.Attribute e "values" apos) [] [] cpos] X.env = (false, eval (.Call (.Attribute e "values" apos) [] [] cpos) X.env) :: starEach [] X.env := by rfl) :
    PE X (.Call (.Name "list" p) [.Call (.Attribute e "values" apos) [] [] cpos] [] pos) (tListVals te) := by
  refine ⟨fun pins s σ H Q I hq => ?_⟩
  refine wpAny_Call_Name_kw (ld_blt I hg hm hv ?_)
  refine PyProof.Rows.callWith_type1 ?_ hs rfl
  rw [hs]
  show wpAny _ _ (spliced ((false, eval (.Call (.Attribute e "values" apos) [] [] cpos) X.env) :: backTo pos (starEach [] X.env))) _ _ s
  refine Calls.spliced_cons ?_
  refine wpAny_Call_method (T := "dict") (id := "dict.values") hbase rfl hline F.plainAttrs_dict F.slot_dict_values F.type_dict_values (thn (he.run pins s σ H _ I hq) fun u s1 ⟨x, H1, I1, rx, d, kvs, ex, hd, q⟩ => ?_)
  subst ex
  obtain rfl : u = Value.ref d := rx
  obtain ⟨hz, hs0, vs, kv, hdo⟩ := I1.hok d _ hd
  obtain ⟨ep, hat⟩ := hdo.dictAt
  have lk : kvs.length = vs.length := Paired.length kv
  have I2 : Inv X pins σ H1 { s1 with heap := s1.heap.push { cls := .type "dict_values", data := .fields #[.ref d] } } := I1.kept (t' := s1.toks) fun b ob q => Heap.get?_push_of_some _ q
  refine ⟨hdo.typeIs, hdo.mapOf.noDict, ?_⟩
  show wpAny _ _ (callWith cpos (.builtin "dict.values") [.ref d] [] []) _ X.xe s1
  refine method_meetsIn F.slot_dict_values F.entry_dict_values rfl (PySem.evalArgs_none ⟨rfl, hdo.typeIs, F.args_dict_values_1 _, _, meets_dict_values (mixKind X.prog X.w) d hs0, ⟨vs, hdo⟩, ?_⟩)
  refine Calls.spliced_nil ?_
  refine PySem.W.kdl_call (PySem.W.kdl_values (knd := mixKind X.prog X.w) (kvs := vs) (ep := ep)) (I1.ok.hd hc) ⟨⟨_, Heap.get?_push_size _ rfl, rfl, rfl⟩, hat.push _⟩ (by rw [← lk]; exact hz) fun h' tk acc' c' hkeep hS hacc => ?_
  have nq : H1 (s1.heap.push { cls := .type "dict_values", data := .fields #[.ref d] }).objs.size = none := I2.hok.fresh (Nat.le_refl _)
  refine ⟨.ref _, upd H1 _ (.lst (kvs.map (·.2))), I2.laid hkeep (Nat.le_refl _) (show ObjOk X.prog X.w _ _ _ (.lst (kvs.map (·.2))) from ⟨?_, acc'.toList, c', ?_, ?_⟩), rfl, q _ nq⟩
  · rw [List.length_map]; exact hz
  · have el : acc'.toList.length = acc'.size := by simp
    refine vals_of_at (by rw [List.length_map, el, hacc.1, lk]) fun j x w h1 h2 => ?_
    obtain ⟨k, hk⟩ := hacc.2 j w (by rw [← Array.getElem?_toList]; exact h2)
    rw [List.getElem?_map] at h1
    cases e : kvs[j]? with
    | none => rw [e] at h1; cases h1
    | some kvj =>
      rw [e] at h1
      have h3 : kvj.2 = x := Option.some.inj h1
      subst h3
      have hget : ∀ {xs : List (Key × V)} {ys : List (Key × Value)}, KV xs ys → ∀ (j : Nat) p r, xs[j]? = some p → ys[j]? = some r → RelV p.2 r.2 := by
        intro xs ys hp
        unfold KV at hp
        induction hp with
        | nil => intro j p r h; simp at h
        | cons r t ih =>
          intro j p r' h1 h2
          cases j with
          | zero =>
            simp at h1 h2
            subst h1; subst h2
            exact r.2
          | succ j => exact ih j p r' (by simpa using h1) (by simpa using h2)
      exact hget kv j _ _ e hk
  · rw [Array.toArray_toList]; exact hS

section
variable {P : Program} {w : World} {K : PySem.W.Frag} {mg : Str → Option Value} {base : Heap} {f C : Addr} {fd : FuncData}

/-! is_letters, require_letters -/
abbrev N_is_letters : List Str := ["value", "one", "other"]
theorem sc_is_letters : FnScope N_is_letters ["value"] (defScope s_is_letters) := ⟨rfl, rfl, rfl, by decide +kernel, rfl, by decide +kernel, by decide +kernel⟩
/-- one to three letters, ascending -/
structure Lts (l : List Nat) : Prop where
  l1 : 1 ≤ l.length
  l3 : l.length ≤ 3
  cod : ∀ c ∈ l, 97 ≤ c ∧ c ≤ 122
  asc : l.Pairwise (· < ·)
theorem Aut.Ok.lts {A : Aut} (ok : A.Ok) : Lts A.ls := ⟨ok.l1, ok.l3, ok.cod, ok.asc⟩
def sp_is_letters (K : PySem.W.Frag) : Sp := fun vs H Q _ => ∃ l : List Nat, vs = [.str (tx l)] ∧ Lts l ∧ Gives K H Q (.bool true)
theorem gd_slS {m : List Addr} {σ : L2.St} {H : Hp} {ta : TE} {l : List Nat} (ha : Gd K m ta σ H (.str (tx l))) (hl : l.length ≤ 10000) : Gd K m (tSl rSlS ta (tPart (tC (.int 1))) tNoPart) σ H (.str (tx (l.drop 1))) := fun H1 s1 w1 Q q =>
  ha H1 s1 w1 _ fun v H2 s2 w2 p => by
    cases p
    refine ⟨1, rfl, tx l, rfl, Nat.le_trans (show (tx l).length ≤ 10000 by rw [tx_len]; exact hl) (by decide), q _ H2 s2 w2 ?_⟩
    have e : cutS (tx l) (some 1) none = tx (l.drop 1) := by
      unfold cutS
      rw [show HT.sIx (tx l).length 0 (some 1) = min 1 (tx l).length from HT.sIx_nat _ 0 1, HT.sIx_none, tx_list, tx_len]
      unfold tx
      congr 2
      cases l with
      | nil => rfl
      | cons x r =>
        rw [show min 1 (x :: r).length = 1 by rw [List.length_cons]; omega]
        simp
    rw [e]
    exact .str _
theorem asc_step {l : List Nat} (h : l.Pairwise (· < ·)) {i : Nat} (hi : i < (l.drop 1).length) : l.getD i 0 < (l.drop 1).getD i 0 := by
  rw [List.length_drop] at hi
  have h1 : i < l.length := by omega
  have h2 : i + 1 < l.length := by omega
  rw [getD_of h1, List.getD_eq_getElem?_getD, List.getElem?_drop, Nat.add_comm 1 i, List.getElem?_eq_getElem h2]
  exact (List.pairwise_iff_getElem.mp h) i (i + 1) h1 h2 (by omega)
theorem ok_is_letters (F : Fun K "is_letters" "is_letters" s_is_letters f fd) (T : Txt K mg C) (Gare_small : Ok1 P w K mg base "are_small" ["text"] 1 (sp_are_small K)) : FnOk P w K mg base CX0 2 f fd ["value"] (sp_is_letters K) := by
  refine F.ok sc_is_letters (fun vs H Q E h => ?_) (fun cdv A outer s H vs Q E hr h => ?_)
  · obtain ⟨l, rfl, _⟩ := h
    rfl
  · obtain ⟨l, rfl, L, q⟩ := h
    have nd := sc_is_letters.nd
    refine ⟨_, (pss_cons (ps_if (PW.pt (pw_or (pt_not (pt_val (pe_callB call_isi (by rfl) T.isinstance (by decide +kernel) (pa_cons (pv 0) (pa_cons (pe_ty (n := "str") (by rfl) T.str (by decide +kernel)) pa_nil))))) (pw_or (pt_not (pt_chain op_le op_le pe_int (pe_callB call_len_str (by rfl) T.len PySem.boot_len (pa_cons (pv 0) pa_nil)) (pe_gi rfl T.MOST_LETTERS))) (pw_or1 (pt_not (pt_val (pe_callP Gare_small hr (by rfl) (pa_cons (pv 0) pa_nil))))))))
      (pss_one (ps_ret pe_bl)) pss_nil)
      (pss_one (ps_ret (pe_callB (cr_all rfl) (by rfl) T.all (by decide +kernel) (pa_cons (pe_lc (own := [("one", 1), ("other", 2)]) rfl nd (pi_zipS (by rfl) T.zip (pa_cons (pv 0) (pa_cons (pe_slice sl_str (pv 0) (po_some pe_int) po_none) pa_nil))) (blkOk_by (N := N_is_letters) (sc := defScope s_is_letters) (by decide +kernel)) (fun _ _ _ _ _ => (pg_tupK (K := K) (n := 2) rfl (pgs_cons (pg_name (i := 1) nd rfl (.inl rfl) (hf := .inr rfl)) (pgs_cons (pg_name (i := 2) nd rfl (.inl rfl) (hf := .inr rfl)) pgs_nil)))) (fun _ _ _ _ _ => pts_nil) (fun _ _ _ _ _ => (pe_cmpR op_lt_str (pv 1) (pv 2) (nomark _)))) pa_nil))))), ?_⟩
    have hl3 := L.l3
    have hl1 := L.l1
    refine rq_not ((gt_or (a := false) (b := false) (gt_not (a := true) (gt_B (K := K) (gd_isi (gd_vs rfl) kb_ss))) fun _ => gt_or (a := false) (b := false) (gt_not (a := true) (gt_test (K := K) (b := true) (gd_chain (a := true) (b := true) gd_i (gd_lenStr (z := tx l) (gd_vs rfl) (by rw [tx_len]; omega)) (rd_I0 fun _ => ?_) (fun _ => gd_i) fun _ => rd_I0 fun _ => ?_))) fun _ => gt_not (a := true) (gt_B (K := K) (gd_call (gA_v (gv_var rfl) gA_nil) fun vs H1 s1 w1 p Q k => ?_)))) fun H1 s1 => ?_
    · rw [decide_eq_true (by rw [tx_len]; omega)]; exact .bl _
    · rw [decide_eq_true (by rw [tx_len]; omega)]; exact .bl _
    · subst p
      exact ⟨l, rfl, L.cod, by omega, fun v H2 s2 p2 => k v H2 s2 Wm.nil p2⟩
    · refine r_ret (gd_all (bs := (List.range (l.length - 1)).map fun _ => true) (ga_cons (Gets.is (gd_lc2 (fun _ => .bool true) (src_zipS (n := l.length - 1) (ga_cons (gd_vs (n := tx l) rfl) (ga_cons (gd_slS (gd_vs (n := tx l) rfl) (by omega)) ga_nil)) (by rw [List.length_drop]; omega)) (by omega) fun i x y H' hi s w hx hy => ?_) (by rw [List.map_map]; rfl)) ga_nil)) fun v H2 s2 p => q v H2 (s1.trans s2) (by rw [all_true] at p; exact p)
      cases dp_str hx
      cases dp_str hy
      refine gd_op (gd_vs rfl) (gd_vs rfl) (rd_ltS ?_)
      rw [tx_list, tx_list, lt1]
      exact decide_eq_true (asc_step L.asc (by rw [List.length_drop]; exact hi))
abbrev N_require_letters : List Str := ["value"]
theorem sc_require_letters : FnScope N_require_letters ["value"] (defScope s_require_letters) := ⟨rfl, rfl, rfl, by decide +kernel, rfl, by decide +kernel, by decide +kernel⟩
def sp_require_letters (K : PySem.W.Frag) : Sp := fun vs H Q _ => ∃ l : List Nat, vs = [.str (tx l)] ∧ Lts l ∧ Gives K H Q .none
theorem ok_require_letters (F : Fun K "require_letters" "require_letters" s_require_letters f fd) (T : Txt K mg C) (Gis_letters : Ok1 P w K mg base "is_letters" ["value"] 2 (sp_is_letters K)) : FnOk P w K mg base CX0 3 f fd ["value"] (sp_require_letters K) := by
  refine F.ok sc_require_letters (fun vs H Q E h => ?_) (fun cdv A outer s H vs Q E hr h => ?_)
  · obtain ⟨l, rfl, _⟩ := h
    rfl
  · obtain ⟨l, rfl, L, q⟩ := h
    have nd := sc_require_letters.nd
    refine ⟨_, (pss_one (ps_if (pt_not (pt_val (pe_callP Gis_letters hr (by rfl) (pa_cons (pv 0) pa_nil)))) (pss_one ps_never) pss_nil)), ?_⟩
    refine r_if (gt_not (a := true) (gt_B (K := K) (gd_call (gA_v (gv_var rfl) gA_nil) fun vs H1 s1 w1 p Q k => ?_))) (fun e => by cases e) fun _ H1 s1 => q _ H1 s1 .non
    subst p
    exact ⟨l, rfl, L, fun v H2 s2 p2 => k v H2 s2 Wm.nil p2⟩

/-! are_states, is_state_set -/
abbrev N_are_states : List Str := ["many", "value", "state"]
theorem sc_are_states : FnScope N_are_states ["many", "value"] (defScope s_are_states) := ⟨rfl, rfl, rfl, by decide +kernel, rfl, by decide +kernel, by decide +kernel⟩
def sp_are_states (K : PySem.W.Frag) : Sp := fun vs H Q _ => ∃ (n : Nat) (v : V) (r : List Nat), vs = [.int (n : Int), v] ∧ Dp K H v (rowD r) ∧ (∀ x ∈ r, x < n) ∧ r.length ≤ 1000 ∧ n ≤ 1000 ∧ Gives K H Q (.bool true)
theorem row_getD {r : List Nat} {i : Nat} (h : i < r.length) : (r.map fun q : Nat => PyData.int (q : Int)).getD i .none = .int (r.getD i 0 : Int) := by
  rw [List.getD_eq_getElem?_getD, List.getElem?_map, List.getElem?_eq_getElem h, getD_of h]; rfl
theorem ok_are_states (F : Fun K "are_states" "are_states" s_are_states f fd) (T : Txt K mg C) (Gis_integer_within : Ok1 P w K mg base "is_integer_within" ["value", "low", "high"] 2 (sp_is_integer_within K)) : FnOk P w K mg base CX0 3 f fd ["many", "value"] (sp_are_states K) := by
  refine F.ok sc_are_states (fun vs H Q E h => ?_) (fun cdv A outer s H vs Q E hr h => ?_)
  · obtain ⟨n, v, r, rfl, _⟩ := h
    rfl
  · obtain ⟨n, v, r, rfl, hv, hb, hl, hn, q⟩ := h
    have nd := sc_are_states.nd
    refine ⟨_, (pss_one (ps_ret (pe_and (pe_callB call_isi (by rfl) T.isinstance (by decide +kernel) (pa_cons (pv 1) (pa_cons (pe_ty (n := "tuple") (by rfl) T.tuple (by decide +kernel)) pa_nil))) (pe_one (pe_callB (cr_all rfl) (by rfl) T.all (by decide +kernel) (pa_cons (pe_lc (own := [("state", 2)]) rfl nd (pi_tup (pv 1)) (blkOk_by (N := N_are_states) (sc := defScope s_are_states) (by decide +kernel)) (fun _ _ _ _ _ => (pg_name (i := 2) nd rfl (.inl rfl))) (fun _ _ _ _ _ => pts_nil) (fun _ _ _ _ _ => (pe_callP Gis_integer_within hr (by rfl) (pa_cons (pv 2) (pa_cons pe_int (pa_cons (pe_op op_sub (pv 0) pe_int) pa_nil)))))) pa_nil)))))), ?_⟩
    refine r_ret (gd_andV (K := K) (a := true) (b := true) (gd_isi (gd_var rfl Wm.nil hv) kb_tt) fun _ => Gets.is (gd_all (bs := (List.range r.length).map fun _ => true) (ga_cons (Gets.is (gd_lc1 (n := r.length) (fun _ => .bool true) (by
      have := src_tup (gd_var (σ := start N_are_states [.int (n : Int), v]) (i := 1) (m := []) rfl Wm.nil hv)
      rw [List.length_map] at this
      exact this) (by omega) fun i x H' hi s w hx => ?_) (by rw [List.map_map]; rfl)) ga_nil)) (by rw [all_true])) fun v H1 s1 p => q v H1 s1 p
    rw [row_getD hi] at hx
    cases dp_int hx
    have hm : r.getD i 0 ∈ r := by rw [getD_of hi]; exact List.getElem_mem hi
    have hx2 := hb _ hm
    generalize r.getD i 0 = x at *
    refine gd_call (ga_cons (K := K) (gd_vi (n := (x : Int)) rfl) (ga_cons gd_i (ga_cons (gd_sub (gd_vi (n := (n : Int)) rfl) gd_i) ga_nil))) fun vs H1 s1 w1 p Q k => ?_
    cases p with
    | cons p1 p2 => cases p2 with
      | cons p2 p3 => cases p3 with
        | cons p3 p4 =>
          cases p4; cases p1; cases p2; cases p3
          refine ⟨(x : Int), 0, (n : Int) - 1, rfl, by omega, by omega, fun v H2 s2 p2 => k v H2 s2 Wm.nil ?_⟩
          rw [decide_eq_true (by omega), decide_eq_true (by omega)] at p2
          exact p2
abbrev N_is_state_set : List Str := ["many", "value", "one", "other"]
theorem sc_is_state_set : FnScope N_is_state_set ["many", "value"] (defScope s_is_state_set) := ⟨rfl, rfl, rfl, by decide +kernel, rfl, by decide +kernel, by decide +kernel⟩
def sp_is_state_set (K : PySem.W.Frag) : Sp := fun vs H Q _ => ∃ (n : Nat) (v : V) (r : List Nat), vs = [.int (n : Int), v] ∧ Dp K H v (rowD r) ∧ (∀ x ∈ r, x < n) ∧ r.Pairwise (· < ·) ∧ r.length ≤ 1000 ∧ n ≤ 1000 ∧ Gives K H Q (.bool true)
theorem gd_slT {m : List Addr} {σ : L2.St} {H : Hp} {ta : TE} {ds : List PyData} (ha : Gd K m ta σ H (.tuple ds)) (ok : okDs m ds := by first | exact Or.inl rfl | exact Or.inr rfl) : Gd K m (tSl (rSlA K) ta (tPart (tC (.int 1))) tNoPart) σ H (.tuple (ds.drop 1)) := fun H1 s1 w1 Q q =>
  ha H1 s1 w1 _ fun v H2 s2 w2 p => by
    obtain ⟨a, xs, rfl, h1, h2⟩ := dp_tup p
    have el := dps_len h2
    have dps_drop : ∀ {vs : List V} {ds : List PyData}, DpAll K H2 vs ds → DpAll K H2 (vs.drop 1) (ds.drop 1) := fun h => by
      cases h with
      | nil => exact .nil
      | cons _ t => exact t
    have e1 : HT.sIx xs.length 0 (some 1) = min 1 xs.length := HT.sIx_nat _ 0 1
    refine ⟨1, rfl, a, xs, rfl, h1, fun hw => q _ H2 s2 w2 ?_, fun _ p hp => q _ _ (s2.trans (Sm.new hp)) (w2.new hp) ?_⟩
    · rw [e1] at hw
      have : xs = [] := List.eq_nil_of_length_eq_zero (by have := hw.1; omega)
      subst this
      cases h2
      exact .tup h1 .nil
    · have e : cutV xs (some 1) none = xs.drop 1 := by
        unfold cutV
        rw [e1, HT.sIx_none]
        cases xs with
        | nil => rfl
        | cons x r =>
          rw [show min 1 (x :: r).length = 1 by rw [List.length_cons]; omega]
          simp
      rw [e]
      refine .tup (SqT.of upd_same) (dps_sm (Sm.new hp) w2 ?_ (dps_drop h2))
      rcases ok with h | h
      · exact .inl h
      · refine .inr ?_
        rw [noLs_iff] at h ⊢
        exact fun d hd => h d (List.mem_of_mem_drop hd)
theorem ok_is_state_set (F : Fun K "is_state_set" "is_state_set" s_is_state_set f fd) (T : Txt K mg C) (Gare_states : Ok1 P w K mg base "are_states" ["many", "value"] 3 (sp_are_states K)) : FnOk P w K mg base CX0 4 f fd ["many", "value"] (sp_is_state_set K) := by
  refine F.ok sc_is_state_set (fun vs H Q E h => ?_) (fun cdv A outer s H vs Q E hr h => ?_)
  · obtain ⟨n, v, r, rfl, _⟩ := h
    rfl
  · obtain ⟨n, v, r, rfl, hv, hb, ha, hl, hn, q⟩ := h
    have nd := sc_is_state_set.nd
    refine ⟨_, (pss_one (ps_ret (pe_and (pe_callP Gare_states hr (by rfl) (pa_cons (pv 0) (pa_cons (pv 1) pa_nil))) (pe_one (pe_callB (cr_all rfl) (by rfl) T.all (by decide +kernel) (pa_cons (pe_lc (own := [("one", 2), ("other", 3)]) rfl nd (RZ.pi_zipA (by rfl) T.zip (pa_cons (pv 1) (pa_cons (pe_slice sl_tupA (pv 1) (po_some pe_int) po_none) pa_nil))) (blkOk_by (N := N_is_state_set) (sc := defScope s_is_state_set) (by decide +kernel)) (fun _ _ _ _ _ => (pg_tupK (K := K) (n := 2) rfl (pgs_cons (pg_name (i := 2) nd rfl (.inl rfl) (hf := .inr rfl)) (pgs_cons (pg_name (i := 3) nd rfl (.inl rfl) (hf := .inr rfl)) pgs_nil)))) (fun _ _ _ _ _ => pts_nil) (fun _ _ _ _ _ => (pe_cmpR op_lt (pv 2) (pv 3) (nomark _)))) pa_nil)))))), ?_⟩
    refine r_ret (gd_andV (a := true) (b := true) (gd_call (gA_v (gv_var rfl) (gA_v (gv_var rfl) gA_nil)) fun vs H1 s1 w1 p Q k => ?_) fun _ => Gets.is (gd_all (bs := (List.range (r.length - 1)).map fun _ => true) (ga_cons (Gets.is (gd_lc2 (n := r.length - 1) (fun _ => .bool true) (src_zipT (ga_cons (gd_var (i := 1) rfl Wm.nil hv) (ga_cons (gd_slT (gd_var (i := 1) rfl Wm.nil hv)) ga_nil)) (by rw [List.length_drop, List.length_map]; omega)) (by omega) fun i x y H' hi s w hx hy => ?_) (by rw [List.map_map]; rfl)) ga_nil)) (by rw [all_true])) fun v H1 s1 p => q v H1 s1 p
    · subst p
      exact ⟨n, v, r, rfl, dp_sm0 s1 hv, hb, hl, hn, fun v H2 s2 p2 => k v H2 s2 Wm.nil p2⟩
    · rw [row_getD (by omega)] at hx
      have hd : ((r.map fun q : Nat => PyData.int (q : Int)).drop 1).getD i .none = .int ((r.drop 1).getD i 0 : Int) := by
        rw [← List.map_drop]
        exact row_getD (by rw [List.length_drop]; exact hi)
      rw [hd] at hy
      cases dp_int hx
      cases dp_int hy
      have := asc_step ha (i := i) (by rw [List.length_drop]; exact hi)
      refine Gets.is (gd_lt (gd_vi (n := (r.getD i 0 : Int)) rfl) (gd_vi (n := ((r.drop 1).getD i 0 : Int)) rfl)) ?_
      generalize r.getD i 0 = u at *
      generalize (r.drop 1).getD i 0 = z at *
      rw [decide_eq_true (by omega)]
end
end K29
/-! rules with the written part told -/
namespace K29
open PySem PySem.Spec PyProof.Rows L2 StX
section
variable {X : Cx}
theorem ixL_ (K : PySem.W.Frag) (hK : X.K = K := by rfl) : IxR X (rIxL K) := hK ▸ ix_list
theorem ixT_ (K : PySem.W.Frag) (hK : X.K = K := by rfl) : IxR X (rIxT K) := hK ▸ ix_tup
abbrev rLenSeq (K : PySem.W.Frag) : List V → Hp → VK → Prop := fun xs H Q => ∃ p ys, xs = [V.ref p] ∧ (SqL K H p ys ∨ SqT K H p ys) ∧ Q (.int ys.length) H
theorem lenSeq_ (K : PySem.W.Frag) (hK : X.K = K := by rfl) : CallR X (.builtin "len") (rLenSeq K) := hK ▸ call_len_seq
theorem isi_ (K : PySem.W.Frag) (hK : X.K = K := by rfl) : CallR X (.builtin "isinstance") (rIsi K) := hK ▸ call_isi
theorem all_ (K : PySem.W.Frag) (hc : X.calm = true := by rfl) (hK : X.K = K := by rfl) : CallR X (.builtin "all") (rAll K) := hK ▸ cr_all hc
theorem max_ (K : PySem.W.Frag) (hc : X.calm = true := by rfl) (hK : X.K = K := by rfl) : CallR X (.builtin "max") (rMax K) := hK ▸ cr_max hc
abbrev rTupOf (K : PySem.W.Frag) : List V → Hp → VK → Prop := fun xs H Q => ∃ p ys, xs = [V.ref p] ∧ ((SqL K H p ys ∧ ∀ l, H l = none → Q (.ref l) (upd H l (.tup ys))) ∨ (SqT K H p ys ∧ Q (.ref p) H))
theorem tupOf_ (K : PySem.W.Frag) (hK : X.K = K := by rfl) : CallR X (.type "tuple") (rTupOf K) := hK ▸ call_tuple_of
abbrev rLstOf (K : PySem.W.Frag) : List V → Hp → VK → Prop := fun xs H Q => ∃ p ys, xs = [V.ref p] ∧ (SqL K H p ys ∨ SqT K H p ys) ∧ ∀ l, H l = none → Q (.ref l) (upd H l (.lst ys))
theorem lstOf_ (K : PySem.W.Frag) (hK : X.K = K := by rfl) : CallR X (.type "list") (rLstOf K) := hK ▸ call_list_of
theorem inSeq_ (K : PySem.W.Frag) (hK : X.K = K := by rfl) : OpR X (compareOp .In) (rIn K false) := hK ▸ op_in_seq
theorem notInSeq_ (K : PySem.W.Frag) (hK : X.K = K := by rfl) : OpR X (compareOp .NotIn) (rIn K true) := hK ▸ op_notIn_seq
theorem eqD_ (K : PySem.W.Frag) (hu : X.A.units + 64 < cLine) (hK : X.K = K := by rfl) : OpR X (compareOp .Eq) (rEqD K) := hK ▸ op_eqD hu
theorem neD_ (K : PySem.W.Frag) (hu : X.A.units + 64 < cLine) (hK : X.K = K := by rfl) : OpR X (compareOp .NotEq) (rNeD K) := hK ▸ op_neD hu
theorem catA_ (K : PySem.W.Frag) (hK : X.K = K := by rfl) : OpR X (binaryOp .Add) (rCatA K) := hK ▸ op_catA
theorem slT_ (K : PySem.W.Frag) (hK : X.K = K := by rfl) : SlR X (rSlA K) := hK ▸ sl_tupA
theorem mtIdx_ (K : PySem.W.Frag) (hK : X.K = K := by rfl) : MtR X "list.index" (rIndex K) := hK ▸ mt_index
theorem mtIdxD_ (K : PySem.W.Frag) (hu : X.A.units + 65 < cLine) (hK : X.K = K := by rfl) : MtR X "list.index" (rIndexD K) := hK ▸ mt_indexD hu
theorem pe_fldK {K : PySem.W.Frag} {e : Expr} {f : Str} {pos : Pos} {ta : TE} (he : PE X e ta) (hb : attributeBase e f X.env (eval e X.env) = eval e X.env := by rfl) (hK : X.K = K := by rfl) : PE X (.Attribute e f pos) (tFld K ta f) := hK ▸ pe_fld he hb
theorem pi_listK {K : PySem.W.Frag} {tg l : Expr} {tl : TE} (hl : PE X l tl) (hK : X.K = K := by rfl) : PI X tg l (iList K tl) := hK ▸ pi_list hl
theorem pi_tupK {K : PySem.W.Frag} {tg l : Expr} {tl : TE} (hl : PE X l tl) (hK : X.K = K := by rfl) : PI X tg l (iTup K tl) := hK ▸ pi_tup hl
theorem pi_enumK {K : PySem.W.Frag} {e : Expr} {ta : TA} {p pos tpos : Pos} {elts : List Expr} {kk : Nat} (hg : Gl X "enumerate") (hm : X.mg "enumerate" = none) (ha : PA X [e] ta) (hs : starEach [e] X.env = [(false, eval e X.env)] := by rfl) (hK : X.K = K := by rfl) :
    PI X (.Tuple elts kk tpos) (.Call (.Name "enumerate" p) [e] [] pos) (iEnum K ta) := hK ▸ pi_enum hg hm ha hs
theorem pi_zipK {K : PySem.W.Frag} {e e2 : Expr} {ta : TA} {p pos tpos : Pos} {elts : List Expr} {kk : Nat} (hg : Gl X "zip") (hm : X.mg "zip" = none) (ha : PA X [e, e2] ta)
    (hs : starEach [e, e2] X.env = (false, eval e X.env) :: starEach [e2] X.env := by rfl) (hpl : (backTo pos (starEach [e2] X.env)).any (·.1) = false := by rfl) (hK : X.K = K := by rfl) :
    PI X (.Tuple elts kk tpos) (.Call (.Name "zip" p) [e, e2] [] pos) (RZ.iZipA K ta) := hK ▸ RZ.pi_zipA hg hm ha hs hpl
theorem pa_starK {K : PySem.W.Frag} {e : Expr} {es : List Expr} {p : Pos} {te : TE} {t : TA} (he : PE X e te) (hr : PA X es t) (hs : starEach (.Starred e p :: es) X.env = (true, eval e X.env) :: starEach es X.env := by rfl) (hK : X.K = K := by rfl) : PA X (.Starred e p :: es) (tStar K te t) := hK ▸ pa_star he hr hs
/-- a list's method with one argument -/
theorem pe_lmK {K : PySem.W.Frag} {o e : Expr} {es : List Expr} {to : TE} {t : TA} {name : Str} {apos cpos : Pos} {id : String} {r : V → List V → Hp → VK → Prop} (slot : Slot "list" name id) (hty : typeOf (.builtin id) = pure (.type "method_descriptor")) (hm : MtR X id r) (ho : PE X o to) (ha : PA X (e :: es) t)
    (hbase : attributeBase o name X.env (eval o X.env) = eval o X.env := by rfl)
    (hfew : ((backTo cpos (starEach (e :: es) X.env)).all (fun x => !x.1) && (backToKw cpos (keywordEach [] X.env)).all (fun x => x.1.isSome)
      && decide ((e :: es).length + ([] : List Keyword).length + (if ([] : List Keyword).isEmpty then 0 else 1) < 30)) = true := by rfl)
    (hline : (apos.endLine == cpos.line) = true := by rfl) (hs : starEach (e :: es) X.env = (false, eval e X.env) :: starEach es X.env := by rfl) (hplain : (backTo cpos (starEach es X.env)).any (·.1) = false := by rfl) (hK : X.K = K := by rfl) :
    PE X (.Call (.Attribute o name apos) (e :: es) [] cpos) (tBM K "list" r to t) := hK ▸ pe_bm PySem.F.plainAttrs_list slot hty hm ho ha hbase hfew hline hs hplain
end
section
variable {K : PySem.W.Frag} {m : List Addr} {σ : L2.St} {H H' : Hp} {ta tb te tl td tk tv to : TE} {t : TA} {D : Ends} {d : PyData} {ds : List PyData}
theorem yes_intro {Q : Bool → Hp → Prop} (h : Q true H) : tYes σ H Q := h
/-- order + [x] by a star -/
theorem ga_star {es : List PyData} (ha : Gd K m te σ H (.list ds)) (hr : Ga K m t σ H es) (ok : okDs m ds := by first | exact Or.inl rfl | exact Or.inr rfl) : Ga K m (tStar K te t) σ H (ds ++ es) := fun H1 s1 w1 Q q =>
  ha H1 s1 w1 _ fun x H2 s2 w2 p => by
    obtain ⟨a, xs, rfl, h1, h2⟩ := dp_lst p
    exact ⟨a, xs, rfl, .inr h1, hr H2 (s1.trans s2) w2 _ fun ys H3 s3 w3 p3 => q _ H3 (s2.trans s3) w3 (dps_append (dps_sm s3 w2 ok h2) p3)⟩
/-- xs.index(y), ints -/
theorem gd_idx {l : List Nat} {q : Nat} (ho : Gd K [] to σ H (rowL l)) (hy : Ga K [] t σ H [.int (q : Int)]) (hq : q ∈ l) : Gd K [] (tBM K "list" (rIndex K) to t) σ H (.int (l.idxOf q : Int)) := fun H1 s1 w1 Q k =>
  ho H1 s1 w1 _ fun x H2 s2 w2 p => by
    obtain ⟨a, xs, rfl, h1, h2⟩ := dp_lst p
    refine ⟨.inl ⟨rfl, _, h1⟩, hy H2 (s1.trans s2) w2 _ fun ys H3 s3 w3 p3 => ?_⟩
    cases p3 with
    | cons p4 p5 =>
      cases p5; cases p4
      have h1' : SqL K H3 a (l.map fun q : Nat => V.int (q : Int)) := by
        rw [rows_inv h2] at h1
        exact s3.lst (by simp) h1
      have e1 := at_idx hq
      refine ⟨a, _, .int (q : Int), l.idxOf q, .int (q : Int), rfl, rfl, h1', rfl, flat_row, by rw [List.getElem?_map, e1]; rfl, by show ((q : Int) == (q : Int)) = true; simp, fun j z hj hz => ?_, k _ H3 (s2.trans s3) w3 (.int _)⟩
      rw [List.getElem?_map] at hz
      cases e : l[j]? with
      | none => rw [e] at hz; cases hz
      | some x =>
        rw [e] at hz
        have hx : V.int (x : Int) = z := Option.some.inj hz
        subst hx
        show ((x : Int) == (q : Int)) = false
        refine beq_eq_false_iff_ne.mpr fun hxq => ?_
        have hxq' : x = q := by omega
        subst hxq'
        have hjl : j < l.length := (List.getElem?_eq_some_iff.mp e).1
        have hnot := List.not_of_lt_findIdx (p := (· == x)) (xs := l) (i := j) hj
        rw [(List.getElem?_eq_some_iff.mp e).2] at hnot
        simp at hnot
end
end K29
namespace K29
open PySem L2

section
variable {K : PySem.W.Frag} {m : List Addr} {σ : L2.St} {H H' : Hp} {ta tb te tl td tk tv : TE} {t u : TT} {D : Ends}
/-! dict comprehensions -/
theorem dc_it {J : It} {n : Nat} {G : Hp → Prop} {Y : Nat → Hp → V → Hp → Prop} (w : Walk J n G Y) {g : TG} {tt : TT} {vs : List Nat} {H1 : Hp} {D : Addr} {Qd : Hp → Prop} (Pv : Nat → Hp → Prop) (h0 : Pv 0 (upd H1 D (.dK []))) (hG : ∀ i H, i ≤ n → Pv i H → G H)
    (hs : ∀ i x H H', i < n → Pv i H → Y i H x H' → g x (wipe σ vs) H' fun σ2 H2 => wipe σ2 vs = wipe σ vs ∧ tt σ2 H2 fun b H3 =>
      if b = true then tk σ2 H3 fun y H4 => tv σ2 H4 fun z H5 => ∃ kvs k, y = kV k ∧ H5 D = some (.dK kvs) ∧ kvs.length < sizeLine ∧ Pv (i + 1) (upd H5 D (.dK (putK kvs k z))) else Pv (i + 1) H3) (hd : ∀ H, Pv n H → Qd H) :
    ∃ W : Nat → Nat → Hp → Prop, (∃ m, W 0 m (upd H1 D (.dK []))) ∧ ∀ i m H, W i m H →
      (J.stop i H ∧ Qd H) ∨ (J.go i H ∧ ∃ Nx : Hp → Prop, (∀ H', Nx H' → ∃ m', m' < m ∧ W (i + 1) m' H') ∧ ∀ x H', J.yld i H x H' → g x (wipe σ vs) H' fun σ2 H2 => wipe σ2 vs = wipe σ vs ∧ tt σ2 H2 fun b H3 =>
        if b = true then tk σ2 H3 fun y H4 => tv σ2 H4 fun z H5 => ∃ kvs k, y = kV k ∧ H5 D = some (.dK kvs) ∧ kvs.length < sizeLine ∧ Nx (upd H5 D (.dK (putK kvs k z))) else Nx H3) := by
  refine ⟨fun i m H => m = n - i ∧ i ≤ n ∧ Pv i H, ⟨n, by simp, Nat.zero_le _, h0⟩, ?_⟩
  rintro i m H ⟨rfl, hi, p⟩
  have q := hG i H hi p
  by_cases hlt : i < n
  · refine .inr ⟨w.goes i H hlt q, Pv (i + 1), fun H' p' => ⟨n - (i + 1), by omega, rfl, hlt, p'⟩, fun x H' y => hs i x H H' hlt p (w.yields i H x H' hlt q y)⟩
  · have e : i = n := by omega
    subst e
    exact .inl ⟨w.stops H q, hd H p⟩
theorem wm_mut {D : Addr} {o : HO} (w : Wm m H') (hD : ∀ c ∈ m, c ≠ D) : Wm m (upd H' D o) := fun c hc => by
  obtain ⟨i, j, k, e⟩ := w c hc
  exact ⟨i, j, k, by rw [upd_ne (hD c hc)]; exact e⟩
theorem wm_apart {D : Addr} (w : Wm m H) (hD : H D = none) : ∀ c ∈ m, c ≠ D := fun c hc e => by
  subst e
  obtain ⟨i, j, k, e⟩ := w c hc
  rw [hD] at e; cases e
/-- a dict that grows by a new key -/
theorem dict_grow {kvs : List (Key × V)} {kds : List (Key × PyData)} {k : Key} {v : V} {d : PyData} (h1 : kvs.map (·.1) = kds.map (·.1)) (h2 : DpAll K H (kvs.map (·.2)) (kds.map (·.2))) (hk : k ∉ kds.map (·.1)) (hd : Dp K H v d) :
    (putK kvs k v).map (·.1) = (kds ++ [(k, d)]).map (·.1) ∧ DpAll K H ((putK kvs k v).map (·.2)) ((kds ++ [(k, d)]).map (·.2)) := by
  rw [putK_new v (dict_no h1 hk)]
  simp only [List.map_append, List.map_cons, List.map_nil]
  exact ⟨by rw [h1], dps_snoc h2 hd⟩
theorem keys_new {n : Nat} {kk : Nat → Key} {e : Nat → PyData} (hk : ∀ i j, i < n → j < n → kk i = kk j → i = j) {i : Nat} (hi : i < n) : kk i ∉ ((List.range i).map fun j => (kk j, e j)).map (·.1) := by
  intro hm
  rw [List.map_map] at hm
  obtain ⟨j, hj, e⟩ := List.mem_map.mp hm
  have hj' := List.mem_range.mp hj
  have := hk j i (by omega) hi e
  omega
theorem range_succ_map {β : Type} (g : Nat → β) (i : Nat) : (List.range (i + 1)).map g = (List.range i).map g ++ [g i] := by
  rw [List.range_succ, List.map_append]; rfl
theorem key_of_dp {k : Key} {v : V} (h : Dp K H v (kD k)) : v = kV k := by cases k <;> (cases h; rfl)
/-- a new dict of these entries -/
abbrev NewDict (K : PySem.W.Frag) (kds : List (Key × PyData)) : V → Hp → Prop := fun v H' => ∃ p, v = .ref p ∧ DictAt K H' p kds
theorem gets_dc1 {wi : TI} {j n : Nat} {vs : List Nat} {E : Nat → PyData} (kk : Nat → Key) (e : Nat → PyData) (hS : Src1 K m wi σ H n E) (hn : n ≤ 50000) (hk : ∀ i j, i < n → j < n → kk i = kk j → i = j)
    (hke : ∀ i x H', i < n → Sm m H H' → Wm m H' → Dp K H' x (E i) → Gd K m tk ((wipe σ vs).set j (some x)) H' (kD (kk i)))
    (hve : ∀ i x H', i < n → Sm m H H' → Wm m H' → Dp K H' x (E i) → Gd K m tv ((wipe σ vs).set j (some x)) H' (e i))
    (hno : ∀ i, i < n → noL (e i) = true) (hE : ∀ i, i < n → okD m (E i) := by intro _ _; exact Or.inl rfl)
    (hw : ∀ x, wipe ((wipe σ vs).set j (some x)) vs = wipe σ vs := by intro _; rfl) : Gets m (tDc wi (gName j) tYes tk tv vs) σ H (NewDict K ((List.range n).map fun i => (kk i, e i))) := fun H1 s1 w1 Q q => by
  refine hS H1 s1 w1 _ fun J H2 G Y s2 w2 W hG hY D hD => ?_
  have hap := wm_apart w2 hD
  have hDm : D ∉ m := fun h => hap D h rfl
  have hnoL : ∀ i, i ≤ n → noLs (((List.range i).map fun i => (kk i, e i)).map (·.2)) = true := fun i hi => by
    rw [List.map_map]
    exact noLs_map fun x hx => hno x (by have := List.mem_range.mp hx; omega)
  refine dc_it W (fun i H' => ∃ kvs, Sm m H2 H' ∧ Wm m H' ∧ H' D = some (.dK kvs) ∧ i ≤ n ∧ kvs.map (·.1) = ((List.range i).map fun i => (kk i, e i)).map (·.1) ∧ DpAll K H' (kvs.map (·.2)) (((List.range i).map fun i => (kk i, e i)).map (·.2)))
    ⟨[], Sm.new hD, w2.new hD, upd_same, Nat.zero_le _, rfl, .nil⟩ (fun i H' _ ⟨_, s, w, _⟩ => hG H' s w) ?_ ?_
  · rintro i x H' H'' hi ⟨kvs, s, w, hd, hin, hk1, hv1⟩ hy
    obtain ⟨rfl, hx⟩ := hY i x H' H'' hi s w hy
    refine ⟨hw x, yes_intro ?_⟩
    show (if (true : Bool) = true then _ else _)
    rw [if_pos rfl]
    refine hke i x H'' hi ((s1.trans s2).trans s) w hx H'' (Sm.refl _ _) w _ fun y H4 s4 w4 p4 => ?_
    refine hve i x H4 hi (((s1.trans s2).trans s).trans s4) w4 (dp_sm s4 w (hE i hi) hx) H4 (Sm.refl _ _) w4 _ fun z H5 s5 w5 p5 => ?_
    have hd5 := (s4.trans s5) D _ hDm hd
    have hlen : kvs.length = i := by have := congrArg List.length hk1; simpa using this
    obtain ⟨g1, g2⟩ := dict_grow hk1 (dps_sm (s4.trans s5) w (.inr (hnoL i hin)) hv1) (keys_new (e := e) hk hi) p5
    refine ⟨kvs, kk i, key_of_dp p4, hd5, Nat.lt_of_le_of_lt (show kvs.length ≤ 50000 by omega) (by decide), _, ((s.trans s4).trans s5).mut hD, wm_mut w5 hap, upd_same, hi, ?_, ?_⟩
    · rw [range_succ_map]; exact g1
    · rw [range_succ_map]
      refine dps_updK ?_ hd5 g2
      have := hnoL (i + 1) hi
      rw [range_succ_map] at this
      exact this
  · rintro H' ⟨kvs, s, w, hd, _, hk1, hv1⟩
    exact q _ _ (s2.trans s) w ⟨D, rfl, ⟨kvs, hd, hk1, hv1⟩⟩
theorem gets_dc2 {wi : TI} {j j' n : Nat} {vs : List Nat} {E F : Nat → PyData} (kk : Nat → Key) (e : Nat → PyData) (hS : Src2 K m wi σ H n E F) (hn : n ≤ 50000) (hk : ∀ i j, i < n → j < n → kk i = kk j → i = j)
    (hke : ∀ i x y H', i < n → Sm m H H' → Wm m H' → Dp K H' x (E i) → Dp K H' y (F i) → Gd K m tk (((wipe σ vs).set j (some x)).set j' (some y)) H' (kD (kk i)))
    (hve : ∀ i x y H', i < n → Sm m H H' → Wm m H' → Dp K H' x (E i) → Dp K H' y (F i) → Gd K m tv (((wipe σ vs).set j (some x)).set j' (some y)) H' (e i))
    (hno : ∀ i, i < n → noL (e i) = true) (hE : ∀ i, i < n → okD m (E i) := by intro _ _; exact Or.inl rfl) (hF : ∀ i, i < n → okD m (F i) := by intro _ _; exact Or.inl rfl)
    (hw : ∀ x y, wipe (((wipe σ vs).set j (some x)).set j' (some y)) vs = wipe σ vs := by intro _ _; rfl) : Gets m (tDc wi (gTup K 2 (gCons (gName j) (gCons (gName j') gNil))) tYes tk tv vs) σ H (NewDict K ((List.range n).map fun i => (kk i, e i))) := fun H1 s1 w1 Q q => by
  refine hS H1 s1 w1 _ fun J H2 G Y s2 w2 W hG hY D hD => ?_
  have hap := wm_apart w2 hD
  have hDm : D ∉ m := fun h => hap D h rfl
  have hnoL : ∀ i, i ≤ n → noLs (((List.range i).map fun i => (kk i, e i)).map (·.2)) = true := fun i hi => by
    rw [List.map_map]
    exact noLs_map fun x hx => hno x (by have := List.mem_range.mp hx; omega)
  refine dc_it W (fun i H' => ∃ kvs, Sm m H2 H' ∧ Wm m H' ∧ H' D = some (.dK kvs) ∧ i ≤ n ∧ kvs.map (·.1) = ((List.range i).map fun i => (kk i, e i)).map (·.1) ∧ DpAll K H' (kvs.map (·.2)) (((List.range i).map fun i => (kk i, e i)).map (·.2)))
    ⟨[], Sm.new hD, w2.new hD, upd_same, Nat.zero_le _, rfl, .nil⟩ (fun i H' _ ⟨_, s, w, _⟩ => hG H' s w) ?_ ?_
  · rintro i v H0 H'' hi ⟨kvs, s, w, hd, hin, hk1, hv1⟩ hy
    obtain ⟨T, x, y, rfl, hT, rfl, hx, hy⟩ := hY i v H0 H'' hi s w hy
    have sT : Sm m H0 (upd H0 T (.tup [x, y])) := Sm.new hT
    have wT : Wm m (upd H0 T (.tup [x, y])) := w.new hT
    have hx' := dp_sm sT w (hE i hi) hx
    have hy' := dp_sm sT w (hF i hi) hy
    refine ⟨T, [x, y], rfl, SqT.of upd_same, rfl, x, [y], rfl, y, [], rfl, rfl, ?_⟩
    refine ⟨hw x y, yes_intro ?_⟩
    show (if (true : Bool) = true then _ else _)
    rw [if_pos rfl]
    refine hke i x y _ hi (((s1.trans s2).trans s).trans sT) wT hx' hy' _ (Sm.refl _ _) wT _ fun y4 H4 s4 w4 p4 => ?_
    refine hve i x y H4 hi ((((s1.trans s2).trans s).trans sT).trans s4) w4 (dp_sm s4 wT (hE i hi) hx') (dp_sm s4 wT (hF i hi) hy') H4 (Sm.refl _ _) w4 _ fun z H5 s5 w5 p5 => ?_
    have hd5 := (sT.trans (s4.trans s5)) D _ hDm hd
    have hlen : kvs.length = i := by have := congrArg List.length hk1; simpa using this
    obtain ⟨g1, g2⟩ := dict_grow hk1 (dps_sm (sT.trans (s4.trans s5)) w (.inr (hnoL i hin)) hv1) (keys_new (e := e) hk hi) p5
    refine ⟨kvs, kk i, key_of_dp p4, hd5, Nat.lt_of_le_of_lt (show kvs.length ≤ 50000 by omega) (by decide), _, ((s.trans sT).trans (s4.trans s5)).mut hD, wm_mut w5 hap, upd_same, hi, ?_, ?_⟩
    · rw [range_succ_map]; exact g1
    · rw [range_succ_map]
      refine dps_updK ?_ hd5 g2
      have := hnoL (i + 1) hi
      rw [range_succ_map] at this
      exact this
  · rintro H' ⟨kvs, s, w, hd, _, hk1, hv1⟩
    exact q _ _ (s2.trans s) w ⟨D, rfl, ⟨kvs, hd, hk1, hv1⟩⟩
/-- k in d -/
theorem gd_din {p : Addr} {k : Key} {kds : List (Key × PyData)} {d : PyData} (hk : Gd K m ta σ H (kD k)) (hd : Gv m td σ H (.ref p)) (D : DictAt K H p kds) (w : Wm m H) (ok : okDs m (kds.map (·.2))) (e : lkD kds k = some d) : Gd K m (tDIn ta td) σ H (.bool true) := fun H1 s1 w1 Q q =>
  hk H1 s1 w1 _ fun y H2 s2 w2 p2 => hd H2 (s1.trans s2) w2 _ fun x H3 s3 w3 p3 => by
    subst p3
    obtain ⟨kvs, h1, h2, h3⟩ := (D.sm ((s1.trans s2).trans s3) w ok).ex
    obtain ⟨v, h4, h5⟩ := dict_look h2 h3 e
    refine ⟨p, _, rfl, .inl ⟨kvs, k, .inl h1, key_of_dp p2, h4.symm⟩, q _ H3 (s2.trans s3) w3 (.bl true)⟩
theorem gd_listVals {p : Addr} {kds : List (Key × PyData)} (hd : Gv [] td σ H (.ref p)) (D : DictAt K H p kds) : Gd K [] (tListVals td) σ H (.list (kds.map (·.2))) := fun H1 s1 w1 Q q =>
  hd H1 s1 w1 _ fun x H2 s2 w2 p2 => by
    subst p2
    obtain ⟨kvs, h1, h2, h3⟩ := (D.sm (s1.trans s2) Wm.nil (.inl rfl)).ex
    exact ⟨p, kvs, rfl, h1, fun l hl => q _ _ (s2.trans (Sm.new hl)) Wm.nil (.lst (SqL.of upd_same) (dps_sm0 (Sm.new hl) h3))⟩
theorem gd_lenD {p : Addr} {kds : List (Key × PyData)} {n : Nat} (hd : Gv [] td σ H (.ref p)) (D : DictAt K H p kds) (hn : n = kds.length) : Gd K [] (tCB (fun xs H Q => ∃ a kvs, xs = [V.ref a] ∧ H a = some (.dK kvs) ∧ Q (.int kvs.length) H) (tCons td tNil)) σ H (.int (n : Int)) := fun H1 s1 w1 Q q =>
  hd H1 s1 w1 _ fun x H2 s2 w2 p2 => by
    subst p2
    obtain ⟨kvs, h1, h2, h3⟩ := (D.sm (s1.trans s2) Wm.nil (.inl rfl)).ex
    have el : kvs.length = kds.length := by have := congrArg List.length h2; simpa using this
    refine ⟨p, kvs, rfl, h1, q _ H2 s2 w2 ?_⟩
    rw [el, ← hn]
    exact .int _
/-! a store to a field -/
theorem rq_fld {P : V → Hp → Prop} {u : TS} {f : Str} {p C dx : Addr} {fs : List (Str × V)} {i : Nat} (h : Gets [] tv σ H P) (hp : H p = some (.ins C dx fs)) (hi : σ[i]? = some (some (.ref p))) (cl : Cls K C) (na : NoAttr K C f) (hl : fs.length < 1000)
    (k : ∀ v H1, Sm [] H H1 → P v H1 → u D σ (upd H1 p (.ins C dx (putF f v fs)))) : tSeq (sFld K (tVar i) tv f) u D σ H :=
  h.go (Q := fun y H1 => tVar i σ H1 fun x H2 => ∃ a C dx fs, x = .ref a ∧ H2 a = some (.ins C dx fs) ∧ Cls K C ∧ NoAttr K C f ∧ fs.length < 1000 ∧ u D σ (upd H2 a (.ins C dx (putF f y fs)))) fun v H1 s pv => ⟨.ref p, hi, p, C, dx, fs, rfl, s p _ (by simp) hp, cl, na, hl, k v H1 s pv⟩
theorem r_fld {P : V → Hp → Prop} {f : Str} {p C dx : Addr} {fs : List (Str × V)} {i : Nat} (h : Gets [] tv σ H P) (hp : H p = some (.ins C dx fs)) (hi : σ[i]? = some (some (.ref p))) (cl : Cls K C) (na : NoAttr K C f) (hl : fs.length < 1000)
    (k : ∀ v H1, Sm [] H H1 → P v H1 → D.nx σ (upd H1 p (.ins C dx (putF f v fs)))) : sFld K (tVar i) tv f D σ H :=
  h.go (Q := fun y H1 => tVar i σ H1 fun x H2 => ∃ a C dx fs, x = .ref a ∧ H2 a = some (.ins C dx fs) ∧ Cls K C ∧ NoAttr K C f ∧ fs.length < 1000 ∧ D.nx σ (upd H2 a (.ins C dx (putF f y fs)))) fun v H1 s pv => ⟨.ref p, hi, p, C, dx, fs, rfl, s p _ (by simp) hp, cl, na, hl, k v H1 s pv⟩
end

section
variable {P : Program} {w : World} {K : PySem.W.Frag} {mg : Str → Option Value} {base : Heap} {f C : Addr} {fd : FuncData}
/-! are_moves -/
abbrev N_are_moves : List Str := ["letters", "value", "rows", "letter", "row"]
theorem sc_are_moves : FnScope N_are_moves ["letters", "value"] (defScope s_are_moves) := ⟨rfl, rfl, rfl, by decide +kernel, rfl, by decide +kernel, by decide +kernel⟩
def sp_are_moves (K : PySem.W.Frag) : Sp := fun vs H Q _ => ∃ (A : Aut) (d : Addr), vs = [.str (tx A.ls), .ref d] ∧ A.Ok ∧ DictAt K H d (movesD A) ∧ Gives K H Q (.bool true)
theorem moves_len (A : Aut) : (movesD A).length = A.ls.length := by unfold movesD; rw [List.length_map]
theorem moves_snd (A : Aut) : (movesD A).map (·.2) = A.ls.map fun c => rowD (A.row c) := by unfold movesD; rw [List.map_map]; rfl
theorem ls_getD {A : Aut} {i : Nat} (h : i < A.ls.length) : A.ls.getD i 0 ∈ A.ls := by rw [getD_of h]; exact List.getElem_mem h
theorem rows_getD {A : Aut} {i : Nat} (h : i < A.ls.length) : (A.ls.map fun c => rowD (A.row c)).getD i .none = rowD (A.row (A.ls.getD i 0)) := by
  rw [List.getD_eq_getElem?_getD, List.getElem?_map, List.getElem?_eq_getElem h, getD_of h]; rfl
theorem ok_are_moves (F : Fun K "are_moves" "are_moves" s_are_moves f fd) (T : Txt K mg C) (Gare_states : Ok1 P w K mg base "are_states" ["many", "value"] 3 (sp_are_states K)) : FnOk P w K mg base CX0 4 f fd ["letters", "value"] (sp_are_moves K) := by
  refine F.ok sc_are_moves (fun vs H Q E h => ?_) (fun cdv A outer s H vs Q E hr h => ?_)
  · obtain ⟨A, d, rfl, _⟩ := h
    rfl
  · obtain ⟨B, d, rfl, ok, hD, q⟩ := h
    have nd := sc_are_moves.nd
    have hu := hu_of hr
    refine ⟨_, (pss_cons (ps_if (PW.pt (pw_or (pt_not (pt_val (pe_callB (isi_ K) (by rfl) T.isinstance (by decide +kernel) (pa_cons (pv 1) (pa_cons (pe_ty (n := "dict") (by rfl) T.dict (by decide +kernel)) pa_nil))))) (pw_or (pt_cmpR op_ne (pe_callB call_lenD (by rfl) T.len PySem.boot_len (pa_cons (pv 1) pa_nil)) (pe_callB call_len_str (by rfl) T.len PySem.boot_len (pa_cons (pv 0) pa_nil)) (nomark _)) (pw_or1 (pt_not (pt_val (pe_callB (all_ K) (by rfl) T.all (by decide +kernel) (pa_cons (pe_lc (own := [("letter", 3)]) rfl nd (pi_str (pv 0)) (blkOk_by (N := N_are_moves) (sc := defScope s_are_moves) (by decide +kernel)) (fun _ _ _ _ _ => (pg_name (i := 3) nd rfl (.inl rfl) (hf := .inr rfl))) (fun _ _ _ _ _ => pts_nil) (fun _ _ _ _ _ => (pe_cmp (pc_din hu (pv 3) (pv 1))))) pa_nil)))))))) 
    (pss_one (ps_ret pe_bl)) pss_nil)
  (pss_cons (ps_set (i := 2) nd rfl (.inr rfl) (pe_listVals rfl (pv 1) (by rfl) T.list))
  (pss_cons (ps_if (pt_not (pt_val (pe_callB (all_ K) (by rfl) T.all (by decide +kernel) (pa_cons (pe_lc (own := [("row", 4)]) rfl nd (pi_listK (K := K) (pv 2)) (blkOk_by (N := N_are_moves) (sc := defScope s_are_moves) (by decide +kernel)) (fun _ _ _ _ _ => (pg_name (i := 4) nd rfl (.inl rfl) (hf := .inr rfl))) (fun _ _ _ _ _ => pts_nil) (fun _ _ _ _ _ => (pe_and (pe_callB (isi_ K) (by rfl) T.isinstance (by decide +kernel) (pa_cons (pv 4) (pa_cons (pe_ty (n := "tuple") (by rfl) T.tuple (by decide +kernel)) pa_nil))) (pe_one (pe_chain op_le op_le pe_int (pe_callB (lenSeq_ K) (by rfl) T.len PySem.boot_len (pa_cons (pv 4) pa_nil)) (pe_gi rfl T.MAX_STATES)))))) pa_nil)))) 
    (pss_one (ps_ret pe_bl)) pss_nil)
  (pss_one (ps_ret (pe_callB (all_ K) (by rfl) T.all (by decide +kernel) (pa_cons (pe_lc (own := [("row", 4)]) rfl nd (pi_listK (K := K) (pv 2)) (blkOk_by (N := N_are_moves) (sc := defScope s_are_moves) (by decide +kernel)) (fun _ _ _ _ _ => (pg_name (i := 4) nd rfl (.inl rfl) (hf := .inr rfl))) (fun _ _ _ _ _ => pts_nil) (fun _ _ _ _ _ => (pe_and (pe_cmpR op_eq (pe_callB (lenSeq_ K) (by rfl) T.len PySem.boot_len (pa_cons (pv 4) pa_nil)) (pe_callB (lenSeq_ K) (by rfl) T.len PySem.boot_len (pa_cons (pe_ix (ixL_ K) (pv 2) pe_int (fun _ _ => rfl)) pa_nil)) (nomark _)) (pe_one (pe_callP Gare_states hr (by rfl) (pa_cons (pe_callB (lenSeq_ K) (by rfl) T.len PySem.boot_len (pa_cons (pv 4) pa_nil)) (pa_cons (pv 4) pa_nil))))))) pa_nil))))))), ?_⟩
    have hl3 := ok.l3
    have hl1 := ok.l1
    have hn60 := ok.n60
    have hn1 := ok.n1
    -- the three tests of the first if
    refine rq_not (gt_or (a := false) (b := false) (gt_not (a := true) (gt_B (K := K) (b := true) ?_)) fun _ => gt_or (a := false) (b := false) (GetsT.is (gt_test (K := K) (gd_op (gd_lenD (n := B.ls.length) (gv_var rfl) hD (by rw [moves_len])) (gd_lenStr (z := tx B.ls) (gd_vs rfl) (by rw [tx_len]; omega)) rd_neI)) (by rw [tx_len]; simp)) fun _ => gt_not (a := true) (gt_B (K := K) (Gets.is (gd_all (bs := (List.range B.ls.length).map fun _ => true) (ga_cons (Gets.is (gd_lc1 (fun _ => .bool true) (src_str (l := B.ls) (gd_vs rfl)) (by omega) fun i x H' hi s w hx => ?_) (by rw [List.map_map]; rfl)) ga_nil)) (by rw [all_true])))) fun H1 s1 => ?_
    · refine gd_cb (gA_v (gv_var rfl) gA_ty) fun vs H1 s1 w1 p Q k => ?_
      subst p
      obtain ⟨kvs, h1, _⟩ := (hD.sm s1 Wm.nil (.inl rfl)).ex
      exact ⟨.ref d, .ty "dict", .type "dict", .type "dict", true, rfl, .ty _, .base (.dK h1), kit_ty kb_dd, k _ H1 (Sm.refl _ _) w1 (.bl true)⟩
    · cases dp_str hx
      exact gd_din (k := ck (B.ls.getD i 0)) (gd_vs rfl) (gv_var rfl) (hD.sm s Wm.nil (.inl rfl)) w (.inl rfl) (movesD_look (ls_getD hi))
    · have hD1 := hD.sm s1 Wm.nil (.inl rfl)
      refine rq_asg (gd_listVals (gv_var rfl) hD1) fun rowsV H2 s2 hrows => ?_
      rw [moves_snd] at hrows
      have hsrc : ∀ {H3 : Hp}, Sm [] H2 H3 → Src1 K [] (iList K (tVar 2)) ((start N_are_moves [.str (tx B.ls), .ref d]).set 2 (some rowsV)) H3 B.ls.length (fun i => (B.ls.map fun c => rowD (B.row c)).getD i .none) := fun s3 => by
        have := src_list (gd_var (σ := (start N_are_moves [.str (tx B.ls), .ref d]).set 2 (some rowsV)) (i := 2) (m := []) rfl Wm.nil (dp_sm0 s3 hrows))
        rw [List.length_map] at this
        exact this
      have hlen : ∀ {x : V} {H' : Hp} {i : Nat}, i < B.ls.length → Dp K H' x ((B.ls.map fun c => rowD (B.row c)).getD i .none) → Dp K H' x (rowD (B.row (B.ls.getD i 0))) ∧ ((B.row (B.ls.getD i 0)).map fun q : Nat => PyData.int (q : Int)).length = B.n := fun {x H' i} hi h => by
        rw [rows_getD hi] at h
        exact ⟨h, by rw [List.length_map, row_len ok (ls_getD hi)]⟩
      refine rq_not (gt_not (a := true) (gt_B (K := K) (Gets.is (gd_all (bs := (List.range B.ls.length).map fun _ => true) (ga_cons (Gets.is (gd_lc1 (fun _ => .bool true) (hsrc (Sm.refl _ _)) (by omega) fun i x H' hi s w hx => ?_) (by rw [List.map_map]; rfl)) ga_nil)) (by rw [all_true])))) fun H3 s3 => ?_
      · obtain ⟨hx1, hx2⟩ := hlen hi hx
        refine gd_andV (a := true) (b := true) (gd_isi (gd_var rfl w hx1) kb_tt) fun _ => gd_chain (a := true) (b := true) gd_i (gd_lenT (ga_cons (gd_var rfl w hx1) ga_nil) hx2.symm) (rd_I0 fun _ => ?_) (fun _ => gd_i) fun _ => rd_I0 fun _ => ?_
        · rw [decide_eq_true (by omega)]; exact .bl _
        · rw [decide_eq_true (by omega)]; exact .bl _
      · refine r_ret (Gets.is (gd_all (bs := (List.range B.ls.length).map fun _ => true) (ga_cons (Gets.is (gd_lc1 (fun _ => .bool true) (hsrc s3) (by omega) fun i x H' hi s w hx => ?_) (by rw [List.map_map]; rfl)) ga_nil)) (by rw [all_true])) fun v H4 s4 p => q v H4 (((s1.trans s2).trans s3).trans s4) p
        obtain ⟨hx1, hx2⟩ := hlen hi hx
        have hrows' := dp_sm0 (s3.trans s) hrows
        have h0 : (B.ls.map fun c => rowD (B.row c))[0]? = some (rowD (B.row (B.ls.getD 0 0))) := by
          rw [getD_at (dflt := PyData.none) (by rw [List.length_map]; omega), rows_getD (by omega)]
        refine gd_andV (a := true) (b := true) (Gets.is (gd_op (gd_lenT (ga_cons (gd_var rfl w hx1) ga_nil) hx2.symm) (gd_lenT (n := B.n) (ga_cons (gd_ixL (n := 0) (gd_var rfl w hrows') gd_i h0) ga_nil) (by rw [List.length_map, row_len ok (ls_getD (by omega))])) rd_eqI) (by simp)) fun _ => ?_
        refine gd_call (ga_cons (K := K) (gd_lenT (ga_cons (gd_var rfl w hx1) ga_nil) hx2.symm) (ga_cons (gd_var rfl w hx1) ga_nil)) fun vs H5 s5 w5 p Q k => ?_
        cases p with
        | cons p1 p2 => cases p2 with
          | cons p2 p3 =>
            cases p3; cases p1
            refine ⟨B.n, _, _, rfl, p2, fun y hy => ok.rb _ (row_mem ok (ls_getD hi)) y hy, by rw [row_len ok (ls_getD hi)]; omega, by omega, fun v H6 s6 p6 => k v H6 s6 Wm.nil p6⟩

/-! says, state_behind, require_reader, len -/
abbrev N_says : List Str := ["reader", "state"]
theorem sc_says : FnScope N_says ["reader", "state"] (defScope s_says) := ⟨rfl, rfl, rfl, by decide +kernel, rfl, by decide +kernel, by decide +kernel⟩
def sp_says (K : PySem.W.Frag) (C : Addr) : Sp := fun vs H Q _ => ∃ (A : Aut) (r : Addr) (q : Nat), vs = [.ref r, .int (q : Int)] ∧ RdAt K C H r A ∧ Gives K H Q (.bool (A.acc q))
theorem ok_says (F : Fun K "says" "says" s_says f fd) (T : Txt K mg C) : FnOk P w K mg base CX0 1 f fd ["reader", "state"] (sp_says K C) := by
  refine F.ok sc_says (fun vs H Q E h => ?_) (fun cdv A outer s H vs Q E hr h => ?_)
  · obtain ⟨A, r, q, rfl, _⟩ := h
    rfl
  · obtain ⟨B, r, n, rfl, ⟨d, ty, R⟩, q⟩ := h
    refine ⟨_, (pss_one (ps_ret (pe_cmpR (inSeq_ K) (pv 1) (pe_fldK (K := K) (pv 0)) (by rfl)))), ?_⟩
    exact r_ret (gd_op (gd_vi (n := (n : Int)) rfl) (gd_fld_y (gv_var rfl) R Wm.nil T) rd_inT) fun v H1 s1 p => q v H1 s1 p
abbrev N_state_behind : List Str := ["reader", "state", "text", "letter"]
theorem sc_state_behind : FnScope N_state_behind ["reader", "state", "text"] (defScope s_state_behind) := ⟨rfl, rfl, rfl, by decide +kernel, rfl, by decide +kernel, by decide +kernel⟩
def sp_state_behind (K : PySem.W.Frag) (C : Addr) : Sp := fun vs H Q _ => ∃ (A : Aut) (r : Addr) (q : Nat) (l : List Nat), vs = [.ref r, .int (q : Int), .str (tx l)] ∧ A.Ok ∧ RdAt K C H r A ∧ q < A.n ∧ Over A.ls l ∧ Gives K H Q (.int (A.run q l : Int))
/-- a for whose turns change nothing that stood -/
theorem r_for1 {K : PySem.W.Frag} {wi : TI} {j n : Nat} {E : Nat → PyData} {σ : L2.St} {H : Hp} {tb : TS} {D : Ends} (hS : Src1 K [] wi σ H n E) (Pv : Nat → L2.St → Hp → Prop) (h0 : ∀ H1, Sm [] H H1 → Pv 0 σ H1)
    (hs : ∀ i x σ' H' (N : L2.St → Hp → Prop), i < n → Sm [] H H' → Pv i σ' H' → Dp K H' x (E i) → (∀ σ2 H2, Sm [] H' H2 → Pv (i + 1) σ2 H2 → N σ2 H2) → tb { D with nx := N, ct := N, bk := D.nx } (σ'.set j (some x)) H')
    (hd : ∀ σ' H', Sm [] H H' → Pv n σ' H' → D.nx σ' H') : tFor wi (gName j) tb D σ H := by
  refine hS H (Sm.refl _ _) Wm.nil _ fun J H2 G Y s2 w2 W hG hY => ?_
  refine for_it W (fun i σ' H' => Sm [] H2 H' ∧ Pv i σ' H') ⟨Sm.refl _ _, h0 H2 s2⟩ (fun i σ' H' _ p => hG H' p.1 Wm.nil) (fun i x σ' H' H'' hi p y => ?_) (fun σ' H' p => hd σ' H' (s2.trans p.1) p.2)
  obtain ⟨rfl, hx⟩ := hY i x H' H'' hi p.1 Wm.nil y
  exact hs i x σ' H'' _ hi (s2.trans p.1) p.2 hx fun σ3 H3 s3 q => ⟨p.1.trans s3, q⟩
theorem rq_for1 {K : PySem.W.Frag} {wi : TI} {j n : Nat} {E : Nat → PyData} {σ : L2.St} {H : Hp} {tb u : TS} {D : Ends} (hS : Src1 K [] wi σ H n E) (Pv : Nat → L2.St → Hp → Prop) (h0 : ∀ H1, Sm [] H H1 → Pv 0 σ H1)
    (hs : ∀ i x σ' H' (N : L2.St → Hp → Prop), i < n → Sm [] H H' → Pv i σ' H' → Dp K H' x (E i) → (∀ σ2 H2, Sm [] H' H2 → Pv (i + 1) σ2 H2 → N σ2 H2) → tb { D with nx := N, ct := N, bk := u D } (σ'.set j (some x)) H')
    (hd : ∀ σ' H', Sm [] H H' → Pv n σ' H' → u D σ' H') : tSeq (tFor wi (gName j) tb) u D σ H := r_for1 (D := { D with nx := u D }) hS Pv h0 hs hd

theorem run_take {A : Aut} {q i : Nat} {l : List Nat} (h : i < l.length) : A.run q (l.take (i + 1)) = A.mv (l.getD i 0) (A.run q (l.take i)) := by
  rw [List.take_add_one, List.getElem?_eq_getElem h, getD_of h]
  exact run_snoc _ _ _
theorem ok_state_behind (F : Fun K "state_behind" "state_behind" s_state_behind f fd) (T : Txt K mg C) : FnOk P w K mg base CX0 1 f fd ["reader", "state", "text"] (sp_state_behind K C) := by
  refine F.ok sc_state_behind (fun vs H Q E h => ?_) (fun cdv A outer s H vs Q E hr h => ?_)
  · obtain ⟨A, r, q, l, rfl, _⟩ := h
    rfl
  · obtain ⟨B, r, n, l, rfl, ok, ⟨d, ty, R⟩, hn, ho, q⟩ := h
    have nd := sc_state_behind.nd
    have hu := hu_of hr
    refine ⟨_, (pss_cons (ps_for PassesOwn.never rfl (pi_str (pv 2)) (pg_name (i := 3) nd rfl (.inl rfl)) 
    (pss_one (ps_set (i := 1) nd rfl (.inl rfl) (pe_ix (ixT_ K) (pe_dget hu (pe_fldK (K := K) (pv 0)) (pv 3) (fun _ _ => rfl)) (pv 1) (fun _ _ => rfl)))))
  (pss_one (ps_ret (pv 1)))), ?_⟩
    refine rq_for1 (K := K) (src_str (l := l) (gd_vs rfl)) (fun i σ' H' => ∃ v, σ' = [some (.ref r), some (.int (B.run n (l.take i) : Int)), some (.str (tx l)), v]) (fun H1 _ => ⟨none, rfl⟩) (fun i x σ' H' N hi s hP hx k => ?_) fun σ' H' s hP => ?_
    · obtain ⟨v, rfl⟩ := hP
      cases dp_str hx
      have hm : l.getD i 0 ∈ B.ls := ho _ (by rw [getD_of hi]; exact List.getElem_mem hi)
      have hov : Over B.ls (l.take i) := fun c hc => ho c (List.mem_of_mem_take hc)
      refine r_asg (gd_mv (K := K) (c := l.getD i 0) (i := B.run n (l.take i)) ok (gv_var rfl) (R.sm s Wm.nil) Wm.nil T (gd_vs rfl) hm (gd_vi rfl) (run_lt ok hov hn)) fun v H1 s1 p => k _ _ s1 ⟨some (.str (tx [l.getD i 0])), ?_⟩
      cases dp_int p
      rw [run_take hi]
      rfl
    · obtain ⟨v, rfl⟩ := hP
      rw [List.take_length]
      exact r_ret (gd_vi (K := K) rfl) fun v H1 s1 p => q v H1 (s.trans s1) p
abbrev N_require_reader : List Str := ["value"]
theorem sc_require_reader : FnScope N_require_reader ["value"] (defScope s_require_reader) := ⟨rfl, rfl, rfl, by decide +kernel, rfl, by decide +kernel, by decide +kernel⟩
def sp_require_reader (K : PySem.W.Frag) (C : Addr) : Sp := fun vs H Q _ => ∃ (A : Aut) (r : Addr), vs = [.ref r] ∧ RdAt K C H r A ∧ Gives K H Q .none
theorem ok_require_reader (F : Fun K "require_reader" "require_reader" s_require_reader f fd) (T : Txt K mg C) : FnOk P w K mg base CX0 1 f fd ["value"] (sp_require_reader K C) := by
  refine F.ok sc_require_reader (fun vs H Q E h => ?_) (fun cdv A outer s H vs Q E hr h => ?_)
  · obtain ⟨A, r, rfl, _⟩ := h
    rfl
  · obtain ⟨B, r, rfl, ⟨d, ty, R⟩, q⟩ := h
    have nd := sc_require_reader.nd
    refine ⟨_, (pss_one (ps_if (pt_not (pt_val (pe_callB (isi_ K) (by rfl) T.isinstance (by decide +kernel) (pa_cons (pv 0) (pa_cons (pe_glob rfl T.mgReader (v := .ref C) rfl) pa_nil))))) (pss_one ps_never) pss_nil)), ?_⟩
    refine r_if (gt_not (a := true) (gt_B (K := K) (b := true) (gd_cb (gA_v (gv_var rfl) (gA_v gv_c gA_nil)) fun vs H1 s1 w1 p Q k => ?_))) (fun e => by cases e) fun _ H1 s1 => q _ H1 s1 .non
    subst p
    obtain ⟨⟨dx, h⟩, _, _⟩ := R.sm s1 Wm.nil
    refine ⟨.ref r, .ref C, .ref C, .ref C, true, rfl, .own C, .base (.ins h T.cl T.kc1 T.kc2 T.kc3 T.kc4), ?_, k _ H1 (Sm.refl _ _) w1 (.bl true)⟩
    unfold PySem.W.kitOne
    rw [if_pos (by simp)]
abbrev N_len : List Str := ["self"]
theorem sc_len : FnScope N_len ["self"] (defScope s_len) := ⟨rfl, rfl, rfl, by decide +kernel, rfl, by decide +kernel, by decide +kernel⟩
def sp_len (K : PySem.W.Frag) (C : Addr) : Sp := fun vs H Q _ => ∃ (A : Aut) (r : Addr), vs = [.ref r] ∧ A.Ok ∧ RdAt K C H r A ∧ Gives K H Q (.int (A.n : Int))
theorem gd_ixS {m : List Addr} {σ : L2.St} {H : Hp} {ta tb : TE} {l : List Nat} {i : Nat} (ha : Gd K m ta σ H (.str (tx l))) (hb : Gd K m tb σ H (.int (i : Int))) (hi : i < l.length) (hl : l.length ≤ 100000) : Gd K m (tOp rIxS ta tb) σ H (.str (tx [l.getD i 0])) := gd_op ha hb (fun x y H1 _ w hx hy Q q => by
  cases hx; cases hy
  refine ⟨tx l, i, l.getD i 0, rfl, rfl, Nat.le_trans (show (tx l).length ≤ 100000 by rw [tx_len]; exact hl) (by decide), ?_, q _ H1 (Sm.refl _ _) w (.str _)⟩
  rw [tx_list]
  exact atI_nat (by rw [getD_of hi]; exact List.getElem?_eq_getElem hi)) (.inr rfl)
theorem ok_len (F : Fun K "__len__" "Reader.__len__" s_len f fd) (T : Txt K mg C) : FnOk P w K mg base CX0 1 f fd ["self"] (sp_len K C) := by
  refine F.ok sc_len (fun vs H Q E h => ?_) (fun cdv A outer s H vs Q E hr h => ?_)
  · obtain ⟨A, r, rfl, _⟩ := h
    rfl
  · obtain ⟨B, r, rfl, ok, ⟨d, ty, R⟩, q⟩ := h
    have nd := sc_len.nd
    have hu := hu_of hr
    refine ⟨_, (pss_one (ps_ret (pe_callB (lenSeq_ K) (by rfl) T.len PySem.boot_len (pa_cons (pe_dget hu (pe_fldK (K := K) (pv 0)) (pe_ix ix_str (pe_fldK (K := K) (pv 0)) pe_int (fun _ _ => rfl)) (fun _ _ => rfl)) pa_nil)))), ?_⟩
    have h1 := ok.l1
    have h3 := ok.l3
    exact r_ret (gd_lenT (n := B.n) (ga_cons (gd_row (c := B.ls.getD 0 0) (gv_var rfl) R Wm.nil T (gd_ixS (i := 0) (gd_fld_l (gv_var rfl) R Wm.nil T) gd_i (by omega) (by omega)) (ls_getD (by omega))) ga_nil) (by rw [List.length_map, row_len ok (ls_getD (by omega))])) fun v H1 s1 p => q v H1 s1 p

/-! Reader(..) -/
abbrev N_init : List Str := ["self", "letters", "moves", "yes", "letter"]
theorem sc_init : FnScope N_init ["self", "letters", "moves", "yes"] (defScope s_init) := ⟨rfl, rfl, rfl, by decide +kernel, rfl, by decide +kernel, by decide +kernel⟩
def sp_init (K : PySem.W.Frag) (C : Addr) : Sp := fun vs H Q _ => ∃ (A : Aut) (p dx d ty : Addr), vs = [.ref p, .str (tx A.ls), .ref d, .ref ty] ∧ A.Ok ∧ H p = some (.ins C dx []) ∧ DictAt K H d (movesD A) ∧ Dp K H (.ref ty) (rowD A.yes) ∧
  ∀ H', (∀ b o, b ≠ p → H b = some o → H' b = some o) → RdAt K C H' p A → Q .non H'
theorem range_movesD (A : Aut) : ((List.range A.ls.length).map fun i => (ck (A.ls.getD i 0), rowD (A.row (A.ls.getD i 0)))) = movesD A := by
  unfold movesD
  refine List.ext_getElem (by simp) fun i h1 h2 => ?_
  simp at h1 h2
  simp [List.getD_eq_getElem?_getD, h1]
theorem ls_inj {A : Aut} (ok : A.Ok) : ∀ i j, i < A.ls.length → j < A.ls.length → ck (A.ls.getD i 0) = ck (A.ls.getD j 0) → i = j := by
  intro i j hi hj e
  have e' := ck_inj e
  rw [getD_of hi, getD_of hj] at e'
  have h := List.pairwise_iff_getElem.mp ok.asc
  rcases Nat.lt_trichotomy i j with h1 | h1 | h1
  · have := h i j hi hj h1; omega
  · exact h1
  · have := h j i hj hi h1; omega
/-- all but the object at p as it stood -/
def But (p : Addr) (H H' : Hp) : Prop := ∀ b o, b ≠ p → H b = some o → H' b = some o
theorem But.refl (p : Addr) (H : Hp) : But p H H := fun _ _ _ h => h
theorem But.sm {p : Addr} {H H1 H2 : Hp} (a : But p H H1) (s : Sm [] H1 H2) : But p H H2 := fun b o hb h => s b o (by simp) (a b o hb h)
theorem But.upd {p : Addr} {H H1 : Hp} {o : HO} (a : But p H H1) : But p H (upd H1 p o) := fun b u hb h => by rw [upd_ne hb]; exact a b u hb h
theorem But.dp {p C dx : Addr} {fs : List (Str × V)} {H H1 : Hp} {v : V} {d : PyData} (a : But p H H1) (hp : H p = some (.ins C dx fs)) (n : noL d = true) (h : Dp K H v d) : Dp K H1 v d := by
  refine dp_keep (fun b ys q => ?_) d v n h
  rcases q with (q | ⟨ob, q⟩) | q
  · exact .inl (.inl (a b _ (ne_of q hp (by intro e; cases e)) q))
  · exact .inl (.inr ⟨ob, a b _ (ne_of q hp (by intro e; cases e)) q⟩)
  · exact .inr q
theorem But.dps {p C dx : Addr} {fs : List (Str × V)} {H H1 : Hp} {vs : List V} {ds : List PyData} (a : But p H H1) (hp : H p = some (.ins C dx fs)) (n : noLs ds = true) (h : DpAll K H vs ds) : DpAll K H1 vs ds := by
  refine dp_keepAll (fun b ys q => ?_) ds vs n h
  rcases q with (q | ⟨ob, q⟩) | q
  · exact .inl (.inl (a b _ (ne_of q hp (by intro e; cases e)) q))
  · exact .inl (.inr ⟨ob, a b _ (ne_of q hp (by intro e; cases e)) q⟩)
  · exact .inr q
theorem But.dict {p C dx d : Addr} {fs : List (Str × V)} {H H1 : Hp} {kds : List (Key × PyData)} (a : But p H H1) (hp : H p = some (.ins C dx fs)) (n : noLs (kds.map (·.2)) = true) (h : DictAt K H d kds) : DictAt K H1 d kds := by
  obtain ⟨kvs, h1, h2, h3⟩ := h.ex
  exact ⟨kvs, a d _ (ne_of h1 hp (by intro e; cases e)) h1, h2, a.dps hp n h3⟩
theorem ok_init (F : Fun K "__init__" "Reader.__init__" s_init f fd) (T : Txt K mg C) (Grequire_letters : Ok1 P w K mg base "require_letters" ["value"] 3 (sp_require_letters K)) (Gare_moves : Ok1 P w K mg base "are_moves" ["letters", "value"] 4 (sp_are_moves K)) (Gis_state_set : Ok1 P w K mg base "is_state_set" ["many", "value"] 4 (sp_is_state_set K)) :
    FnOk P w K mg base CX0 5 f fd ["self", "letters", "moves", "yes"] (sp_init K C) := by
  refine F.ok sc_init (fun vs H Q E h => ?_) (fun cdv A outer s H vs Q E hr h => ?_)
  · obtain ⟨A, p, dx, d, ty, rfl, _⟩ := h
    rfl
  · obtain ⟨B, p, dx, d, ty, rfl, ok, hp, hD, hy, q⟩ := h
    have nd := sc_init.nd
    have hu := hu_of hr
    have h1 := ok.l1
    have h3 := ok.l3
    refine ⟨_, (pss_cons (ps_expr (pe_callP Grequire_letters hr (by rfl) (pa_cons (pv 1) pa_nil)))
  (pss_cons (ps_if (pt_not (pt_val (pe_callP Gare_moves hr (by rfl) (pa_cons (pv 1) (pa_cons (pv 2) pa_nil))))) 
    (pss_one ps_never) pss_nil)
  (pss_cons (ps_fld (pv 0) (pv 1) rfl)
  (pss_cons (ps_fld (pv 0) (pe_dc (own := [("letter", 4)]) rfl nd (pi_str (pv 1)) (blkOk_by (N := N_init) (sc := defScope s_init) (by decide +kernel)) (fun _ _ _ _ _ => (pg_name (i := 4) nd rfl (.inl rfl) (hf := .inr rfl))) (fun _ _ _ _ _ => pts_nil) (fun _ _ _ _ _ => (pv 4)) (fun _ _ _ _ _ => (pe_dget hu (pv 2) (pv 4) (fun _ _ => rfl)))) rfl)
  (pss_cons (ps_if (pt_not (pt_val (pe_callP Gis_state_set hr (by rfl) (pa_cons (pe_callB (lenSeq_ K) (by rfl) T.len PySem.boot_len (pa_cons (pe_dget hu (pv 2) (pe_ix ix_str (pv 1) pe_int (fun _ _ => rfl)) (fun _ _ => rfl)) pa_nil)) (pa_cons (pv 3) pa_nil))))) 
    (pss_one ps_never) pss_nil)
  (pss_one (ps_fld (pv 0) (pv 3) rfl))))))), ?_⟩
    -- require_letters(letters)
    refine rq_drop (P := fun v H1 => Dp K H1 v .none) (gd_call (gA_v (gv_var rfl) gA_nil) fun vs H1 s1 w1 e Q k => ?_) fun _ H1 s1 _ => ?_
    · subst e
      exact ⟨B.ls, rfl, ok.lts, fun v H2 s2 p2 => k v H2 s2 Wm.nil p2⟩
    -- if not are_moves(..)
    refine rq_not (gt_not (a := true) (gt_B (K := K) (gd_call (gA_v (gv_var rfl) (gA_v (gv_var rfl) gA_nil)) fun vs H2 s2 w2 e Q k => ?_))) fun H2 s2 => ?_
    · subst e
      exact ⟨B, d, rfl, ok, hD.sm (s1.trans s2) Wm.nil (.inl rfl), fun v H3 s3 p3 => k v H3 s3 Wm.nil p3⟩
    have s12 := s1.trans s2
    have hp2 := s12 p _ (by simp) hp
    have hD2 := hD.sm s12 Wm.nil (.inl rfl)
    have hy2 := dp_sm0 s12 hy
    -- self.own_letters = letters
    refine rq_fld (i := 0) (P := fun v _ => v = .str (tx B.ls)) (gv_var rfl) hp2 rfl T.cl T.nl (by show 0 < 1000; decide) fun v H3 s3 e => ?_
    subst e
    have b3 : But p H2 (upd H3 p (.ins C dx (putF "own_letters" (.str (tx B.ls)) []))) := ((But.refl p H2).sm s3).upd
    have hD3 := b3.dict hp2 (noL_moves B) hD2
    -- self.own_moves = {..}
    refine rq_fld (i := 0) (P := NewDict K (movesD B)) ?_ upd_same rfl T.cl T.nm (by show 1 < 1000; decide) fun v H4 s4 e => ?_
    · refine Gets.imp (gets_dc1 (n := B.ls.length) (fun i => ck (B.ls.getD i 0)) (fun i => rowD (B.row (B.ls.getD i 0))) (src_str (l := B.ls) (gd_vs rfl)) (by omega) (ls_inj ok) (fun i x H' hi s w hx => gd_var rfl w hx) (fun i x H' hi s w hx => ?_) (fun i _ => noL_row _)) fun v H1 _ _ e => by
        rw [range_movesD] at e
        exact e
      cases dp_str hx
      exact gd_dget (k := ck (B.ls.getD i 0)) (gv_var rfl) (gd_vs rfl) (hD3.sm s Wm.nil (.inl rfl)) w (.inl rfl) (movesD_look (ls_getD hi))
    obtain ⟨d', rfl, hd'⟩ := e
    have hp4 : H4 p = some (.ins C dx (putF "own_letters" (.str (tx B.ls)) [])) := s4 p _ (by simp) upd_same
    have b4 : But p H4 (upd H4 p (.ins C dx (putF "own_moves" (.ref d') (putF "own_letters" (.str (tx B.ls)) [])))) := (But.refl p H4).upd
    have hd4 := b4.dict hp4 (noL_moves B) hd'
    have hD4 := b4.dict hp4 (noL_moves B) (hD3.sm s4 Wm.nil (.inl rfl))
    have hy4 : Dp K (upd H4 p (.ins C dx (putF "own_moves" (.ref d') (putF "own_letters" (.str (tx B.ls)) [])))) (.ref ty) (rowD B.yes) := b4.dp hp4 (noL_row _) (dp_sm0 s4 (b3.dp hp2 (noL_row _) hy2))
    have bAll : But p H (upd H4 p (.ins C dx (putF "own_moves" (.ref d') (putF "own_letters" (.str (tx B.ls)) [])))) := fun b o hb h => b4 b o hb (s4 b o (by simp) (b3 b o hb (s12 b o (by simp) h)))
    generalize hH4 : upd H4 p (.ins C dx (putF "own_moves" (.ref d') (putF "own_letters" (.str (tx B.ls)) []))) = H5 at *
    have hp5 : H5 p = some (.ins C dx (putF "own_moves" (.ref d') (putF "own_letters" (.str (tx B.ls)) []))) := by rw [← hH4]; exact upd_same
    -- if not is_state_set(..)
    refine rq_not (gt_not (a := true) (gt_B (K := K) (gd_call (ga_cons (K := K) (gd_lenT (n := B.n) (ga_cons (gd_dget (k := ck (B.ls.getD 0 0)) (gv_var rfl) (gd_ixS (i := 0) (gd_vs rfl) gd_i (by omega) (by omega)) hD4 Wm.nil (.inl rfl) (movesD_look (ls_getD (by omega)))) ga_nil) (by rw [List.length_map, row_len ok (ls_getD (by omega))])) (ga_cons (gd_var rfl Wm.nil hy4) ga_nil)) fun vs H6 s6 w6 e Q k => ?_))) fun H6 s6 => ?_
    · cases e with
      | cons e1 e2 => cases e2 with
        | cons e2 e3 =>
          cases e3; cases e1
          have hn := ok.n60
          have hyl : B.yes.length ≤ B.n := by
            have h := List.Nodup.length_le_of_subset (l₁ := B.yes) (l₂ := List.range B.n) (ok.ya.imp fun {a b} h => Nat.ne_of_lt h) fun x hx => List.mem_range.mpr (ok.yb x hx)
            simpa using h
          exact ⟨B.n, _, B.yes, rfl, e2, ok.yb, ok.ya, by omega, by omega, fun v H7 s7 p7 => k v H7 s7 Wm.nil p7⟩
    -- self.own_yes = yes
    refine r_fld (i := 0) (P := fun v _ => v = .ref ty) (gv_var rfl) (s6 p _ (by simp) hp5) rfl T.cl T.ny (by show 2 < 1000; decide) fun v H7 s7 e => ?_
    subst e
    have s67 := s6.trans s7
    have hp7 := s67 p _ (by simp) hp5
    have b7 : But p H7 (upd H7 p (.ins C dx (rdF B.ls d' ty))) := (But.refl p H7).upd
    refine q _ (fun b o hb h => b7 b o hb (s67 b o (by simp) (bAll b o hb h))) ⟨d', ty, ⟨dx, upd_same⟩, b7.dict hp7 (noL_moves B) (hd4.sm s67 Wm.nil (.inl rfl)), b7.dp hp7 (noL_row _) (dp_sm0 s67 hy4)⟩
end
end K29
namespace K29
open PySem L2

/-- Reader(..) can be called -/
def RdMk (P : Program) (w : World) (K : PySem.W.Frag) (mg : Str → Option Value) (base : Heap) (C : Addr) : Prop :=
  ∃ (f : Addr) (fd : FuncData), Mk K C f ∧ FnOk P w K mg base CX0 5 f fd ["self", "letters", "moves", "yes"] (sp_init K C) ∧ Binds K fd ["self", "letters", "moves", "yes"] [] ∧ mg "Reader" = some (.ref C)
def RdLen (P : Program) (w : World) (K : PySem.W.Frag) (mg : Str → Option Value) (base : Heap) (C : Addr) : Prop :=
  ∃ (f : Addr) (fd : FuncData), PySem.W.findIn K (.ref C) "__len__" = some (some (.ref f)) ∧ PySem.W.isFn K (.ref f) = true ∧ FnOk P w K mg base CX0 1 f fd ["self"] (sp_len K C) ∧ Binds K fd ["self"] []
theorem pe_mkR {X : Cx} {C : Addr} {k' : Nat} {e : Expr} {es : List Expr} {t : TA} {p pos : Pos} {K : PySem.W.Frag} (R : RdMk X.prog X.w K X.mg X.base C) (hr : Room k' X.A) (ha : PA X (e :: es) t) (hg : Gl X "Reader" := by rfl) (hk : 6 ≤ k' := by decide)
    (he : starEach (e :: es) X.env = (false, eval e X.env) :: starEach es X.env := by rfl) (hpl : (backTo pos (starEach es X.env)).any (·.1) = false := by rfl) (hK : X.K = K := by rfl) :
    PE X (.Call (.Name "Reader" p) (e :: es) [] pos) (tMake C (sp_init K C) [] E0 t) := by
  subst hK
  obtain ⟨f, fd, M, G, b, m⟩ := R
  exact pe_make M G (hr.mono hk) hg m b .nil pass0 ha (by decide) he hpl
theorem lenR_ {X : Cx} {C : Addr} {k' : Nat} {K : PySem.W.Frag} (R : RdLen X.prog X.w K X.mg X.base C) (hr : Room k' X.A) (hk : 2 ≤ k' := by decide) (hK : X.K = K := by rfl) : CallR X (.builtin "len") (rLenR C (sp_len K C)) := by
  subst hK
  obtain ⟨f, fd, h1, h2, G, b⟩ := R
  exact call_lenR h1 h2 G (hr.mono hk) b
section
variable {K : PySem.W.Frag} {m : List Addr} {σ : L2.St} {H H' : Hp} {ta tb te tl td tk tv to : TE} {t : TA} {D : Ends} {d : PyData} {ds : List PyData} {C : Addr} {A : Aut} {u tb' : TS} {c : TT}
abbrev IsRd (K : PySem.W.Frag) (C : Addr) (A : Aut) : V → Hp → Prop := fun v H' => ∃ r, v = .ref r ∧ RdAt K C H' r A
theorem gets_make (ok : A.Ok) (h : GetsA [] t σ H (fun vs H' => ∃ d ty, vs = [.str (tx A.ls), .ref d, .ref ty] ∧ DictAt K H' d (movesD A) ∧ Dp K H' (.ref ty) (rowD A.yes))) : Gets [] (tMake C (sp_init K C) [] E0 t) σ H (IsRd K C A) := fun H1 s1 w1 Q q =>
  h H1 s1 w1 _ fun vs H2 s2 w2 p => by
    obtain ⟨d, ty, rfl, hD, hy⟩ := p
    intro x dx hx hdx hne
    have sa : Sm [] H2 (upd H2 dx (.own x)) := Sm.new hdx
    have hx' : (upd H2 dx (.own x)) x = none := by rw [upd_ne hne.symm]; exact hx
    have sb : Sm [] (upd H2 dx (.own x)) (upd (upd H2 dx (.own x)) x (.ins C dx [])) := Sm.new hx'
    have sab := sa.trans sb
    refine ⟨A, x, dx, d, ty, rfl, ok, upd_same, hD.sm sab Wm.nil (.inl rfl), dp_sm0 sab hy, fun H3 hb hR => ⟨rfl, q _ H3 (s2.trans fun b o _ ho => hb b o ?_ (sab b o (by simp) ho)) Wm.nil ⟨x, rfl, hR⟩⟩⟩
    intro e
    subst e
    rw [hx] at ho; cases ho
theorem gd_lenR {r : Addr} (ok : A.Ok) (hr : Gv [] ta σ H (.ref r)) (R : RdAt K C H r A) : Gd K [] (tCB (rLenR C (sp_len K C)) (tCons ta tNil)) σ H (.int (A.n : Int)) := fun H1 s1 w1 Q q =>
  hr H1 s1 w1 _ fun v H2 s2 w2 p => by
    subst p
    have R2 := R.sm0 (s1.trans s2)
    obtain ⟨d, ty, ⟨dx, h⟩, _⟩ := id R2
    exact ⟨r, dx, _, rfl, h, A, r, rfl, ok, R2, fun v H3 s3 p3 => ⟨A.n, dp_int p3, by have := ok.n60; omega, q _ H3 (s2.trans s3) Wm.nil (.int _)⟩⟩
/-! while -/
theorem r_while (W : Nat → L2.St → Hp → Prop) (m0 : Nat) (h0 : W m0 σ H) (hs : ∀ m σ' H', W m σ' H' → ∃ b, GetsT [] c σ' H' b ∧
    (b = true → ∀ H1, Sm [] H' H1 → ∀ N : L2.St → Hp → Prop, (∀ m' σ2 H2, m' < m → W m' σ2 H2 → N σ2 H2) → tb' { D with nx := N, ct := N, bk := D.nx } σ' H1) ∧ (b = false → ∀ H1, Sm [] H' H1 → D.nx σ' H1)) : tWhile c tb' D σ H := by
  refine ⟨W, ⟨m0, h0⟩, fun m σ' H' hw => ?_⟩
  obtain ⟨b, hc, h1, h2⟩ := hs m σ' H' hw
  refine hc.go (Q := fun b H1 => if b = true then ∃ N : L2.St → Hp → Prop, (∀ σ' H', N σ' H' → ∃ m', m' < m ∧ W m' σ' H') ∧ tb' { D with nx := N, ct := N, bk := D.nx } σ' H1 else D.nx σ' H1) fun H1 s1 => ?_
  cases b with
  | true => exact iteT ⟨fun σ2 H2 => ∃ m', m' < m ∧ W m' σ2 H2, fun _ _ h => h, h1 rfl H1 s1 _ fun m' σ2 H2 hm hw' => ⟨m', hm, hw'⟩⟩
  | false => exact iteF (h2 rfl H1 s1)
theorem rq_while (W : Nat → L2.St → Hp → Prop) (m0 : Nat) (h0 : W m0 σ H) (hs : ∀ m σ' H', W m σ' H' → ∃ b, GetsT [] c σ' H' b ∧
    (b = true → ∀ H1, Sm [] H' H1 → ∀ N : L2.St → Hp → Prop, (∀ m' σ2 H2, m' < m → W m' σ2 H2 → N σ2 H2) → tb' { D with nx := N, ct := N, bk := u D } σ' H1) ∧ (b = false → ∀ H1, Sm [] H' H1 → u D σ' H1)) : tSeq (tWhile c tb') u D σ H := r_while (D := { D with nx := u D }) W m0 h0 hs
/-- a, b = (x, y): the tuple made, then taken apart -/
theorem rq_asg2 {i j : Nat} {d1 d2 : PyData} (h : Gd K [] te σ H (.tuple [d1, d2])) (k : ∀ v1 v2 H1, Sm [] H H1 → Dp K H1 v1 d1 → Dp K H1 v2 d2 → u D ((σ.set i (some v1)).set j (some v2)) H1) : tSeq (tAsg te (gTup K 2 (gCons (gName i) (gCons (gName j) gNil)))) u D σ H :=
  h.go (Q := fun x H1 => gTup K 2 (gCons (gName i) (gCons (gName j) gNil)) x σ H1 (u D)) fun v H1 s1 p => by
    obtain ⟨a, xs, rfl, h1, h2⟩ := dp_tup p
    cases h2 with
    | cons p1 p2 => cases p2 with
      | cons p2 p3 =>
        cases p3
        exact ⟨a, _, rfl, h1, rfl, _, _, rfl, _, _, rfl, rfl, k _ _ H1 s1 p1 p2⟩
theorem rq_aug {i : Nat} {a b : Int} (hx : σ[i]? = some (some (.int a))) (h : Gd K [] te σ H (.int b)) (k : ∀ H1, Sm [] H H1 → u D (σ.set i (some (.int (a + b)))) H1) : tSeq (tAug i te (ipI fun i j => i + j)) u D σ H :=
  ⟨.int a, hx, h.go (Q := fun y H1 => ipI (fun i j => i + j) (.int a) y H1 fun z H2 => u D (σ.set i (some z)) H2) fun v H1 s p => by cases p; exact ⟨a, b, rfl, rfl, k H1 s⟩⟩
theorem r_aug {i : Nat} {a b : Int} (hx : σ[i]? = some (some (.int a))) (h : Gd K [] te σ H (.int b)) (k : ∀ H1, Sm [] H H1 → D.nx (σ.set i (some (.int (a + b)))) H1) : tAug i te (ipI fun i j => i + j) D σ H :=
  ⟨.int a, hx, h.go (Q := fun y H1 => ipI (fun i j => i + j) (.int a) y H1 fun z H2 => D.nx (σ.set i (some z)) H2) fun v H1 s p => by cases p; exact ⟨a, b, rfl, rfl, k H1 s⟩⟩
/-! a dict locked while it is walked -/
theorem dp_unlock {p : Addr} {od : Obj} {kvs : List (Key × V)} {v : V} (hp : H p = some (.frz od (.dK kvs))) (h : Dp K H v d) : Dp K (upd H p (.dK kvs)) v d := by
  refine dp_same (fun b xs q => ?_) (fun b xs q => ?_) d v h
  · rcases q with (q | ⟨ob, q⟩) | q
    · exact .inl (.inl (by rw [upd_ne (ne_of q hp (by intro e; cases e))]; exact q))
    · exact .inl (.inr ⟨ob, by rw [upd_ne (ne_of q hp (by intro e; cases e))]; exact q⟩)
    · exact .inr q
  · rcases q with (q | ⟨ob, q⟩) | q
    · exact .inl (.inl (by rw [upd_ne (ne_of q hp (by intro e; cases e))]; exact q))
    · exact .inl (.inr ⟨ob, by rw [upd_ne (ne_of q hp (by intro e; cases e))]; exact q⟩)
    · exact .inr q
theorem dp_lock {p : Addr} {od : Obj} {kvs : List (Key × V)} {v : V} (hp : H p = some (.dK kvs)) (h : Dp K H v d) : Dp K (upd H p (.frz od (.dK kvs))) v d := by
  refine dp_same (fun b xs q => ?_) (fun b xs q => ?_) d v h
  · rcases q with (q | ⟨ob, q⟩) | q
    · exact .inl (.inl (by rw [upd_ne (ne_of q hp (by intro e; cases e))]; exact q))
    · exact .inl (.inr ⟨ob, by rw [upd_ne (ne_of q hp (by intro e; cases e))]; exact q⟩)
    · exact .inr q
  · rcases q with (q | ⟨ob, q⟩) | q
    · exact .inl (.inl (by rw [upd_ne (ne_of q hp (by intro e; cases e))]; exact q))
    · exact .inl (.inr ⟨ob, by rw [upd_ne (ne_of q hp (by intro e; cases e))]; exact q⟩)
    · exact .inr q
theorem dps_lock {p : Addr} {od : Obj} {kvs : List (Key × V)} : ∀ {vs : List V} {ds : List PyData}, H p = some (.dK kvs) → DpAll K H vs ds → DpAll K (upd H p (.frz od (.dK kvs))) vs ds
  | _, _, _, .nil => .nil
  | _, _, hp, .cons h t => .cons (dp_lock hp h) (dps_lock hp t)
theorem dps_unlock {p : Addr} {od : Obj} {kvs : List (Key × V)} : ∀ {vs : List V} {ds : List PyData}, H p = some (.frz od (.dK kvs)) → DpAll K H vs ds → DpAll K (upd H p (.dK kvs)) vs ds
  | _, _, _, .nil => .nil
  | _, _, hp, .cons h t => .cons (dp_unlock hp h) (dps_unlock hp t)
theorem DictAt.lock {p q : Addr} {od : Obj} {kvs : List (Key × V)} {kds : List (Key × PyData)} (D : DictAt K H q kds) (hp : H p = some (.dK kvs)) (hne : q ≠ p) : DictAt K (upd H p (.frz od (.dK kvs))) q kds := by
  obtain ⟨ks, h1, h2, h3⟩ := D.ex
  exact ⟨ks, by rw [upd_ne hne]; exact h1, h2, dps_lock hp h3⟩
theorem DictAt.unlock {p q : Addr} {od : Obj} {kvs : List (Key × V)} {kds : List (Key × PyData)} (D : DictAt K H q kds) (hp : H p = some (.frz od (.dK kvs))) : DictAt K (upd H p (.dK kvs)) q kds := by
  obtain ⟨ks, h1, h2, h3⟩ := D.ex
  exact ⟨ks, by rw [upd_ne (ne_of h1 hp (by intro e; cases e))]; exact h1, h2, dps_unlock hp h3⟩
theorem gets_lock {p : Addr} {kvs : List (Key × V)} {P : V → Hp → Prop} (hp : H p = some (.dK kvs)) (w : Wm m H) (h : ∀ (od : Obj) H1, Sm m H H1 → Wm m H1 → H1 p = some (.dK kvs) → Gets m te σ (upd H1 p (.frz od (.dK kvs))) fun v H2 => H2 p = some (.frz od (.dK kvs)) → P v (upd H2 p (.dK kvs))) : Gets m (tLockE te) σ H P := fun H1 s1 w1 Q q => by
  have hp1 : H1 p = some (.dK kvs) := s1.at w hp fun _ e => by cases e
  have hpm : ∀ c ∈ m, c ≠ p := fun c hc e => by
    subst e
    obtain ⟨i, j, k, e⟩ := w1 c hc
    rw [hp1] at e; cases e
  refine ⟨p, .dK kvs, hp1, True.intro, fun od => ?_⟩
  refine h od H1 s1 w1 hp1 _ (Sm.refl _ _) (wm_mut w1 hpm) _ fun v H2 s2 w2 pv => ?_
  have hp2 : H2 p = some (.frz od (.dK kvs)) := s2 p _ (fun hm => hpm p hm rfl) upd_same
  refine ⟨hp2, q _ _ (fun b o hb ho => ?_) (wm_mut w2 hpm) (pv hp2)⟩
  by_cases e : b = p
  · subst e
    rw [hp1] at ho
    cases ho
    exact upd_same
  · rw [upd_ne e]
    exact s2 b o hb (by rw [upd_ne e]; exact ho)
theorem kds_get {kds : List (Key × PyData)} {kvs : List (Key × V)} (h1 : kvs.map (·.1) = kds.map (·.1)) {i : Nat} {k : Key} {v : V} (h : kvs[i]? = some (k, v)) : (kds.map fun p => kD p.1)[i]? = some (kD k) := by
  have e : (kvs.map (·.1))[i]? = some k := by rw [List.getElem?_map, h]; rfl
  rw [h1, List.getElem?_map] at e
  rw [List.getElem?_map]
  cases q : kds[i]? with
  | none => rw [q] at e; cases e
  | some p => rw [q] at e; have e' : p.1 = k := Option.some.inj e; subst e'; rfl
theorem src_items {p : Addr} {od : Obj} {kvs : List (Key × V)} {kds : List (Key × PyData)} (hd : Gv m td σ H (.ref p)) (hp : H p = some (.frz od (.dK kvs))) (w : Wm m H) (h1 : kvs.map (·.1) = kds.map (·.1)) (h2 : DpAll K H (kvs.map (·.2)) (kds.map (·.2))) (ok : okDs m (kds.map (·.2))) :
    Src2 K m (iItems td) σ H kds.length (fun i => (kds.map fun p => kD p.1).getD i .none) (fun i => (kds.map (·.2)).getD i .none) := fun H1 s1 w1 R q =>
  hd H1 s1 w1 _ fun v H2 s2 w2 pv => by
    subst pv
    have hp2 : H2 p = some (.frz od (.dK kvs)) := (s1.trans s2).at w hp fun _ e => by cases e
    have el : kvs.length = kds.length := by have := congrArg List.length h1; simpa using this
    refine ⟨p, od, kvs, rfl, hp2, q _ H2 (fun H => H p = some (.frz od (.dK kvs))) _ s2 w2 (by rw [← el]; exact walk_items) (fun H' s' w' => s'.at w2 hp2 fun _ e => by cases e) fun i v H' H'' hi s' w' y => ?_⟩
    obtain ⟨T, x, y, e1, e2, e3, e4, e5⟩ := y
    have hi' : i < kvs.length := by omega
    obtain ⟨k, vv, hk'⟩ : ∃ k vv, kvs[i]? = some (k, vv) := ⟨_, _, List.getElem?_eq_getElem hi'⟩
    have e4' : (kvs[i]?.map fun kv => kV kv.1) = some x := e4
    have e5' : kvs[i]?.map Prod.snd = some y := e5
    rw [hk'] at e4' e5'
    have hx : kV k = x := Option.some.inj e4'
    have hy : vv = y := Option.some.inj e5'
    subst hx; subst hy
    refine ⟨T, _, _, e1, e2, e3, ?_, ?_⟩
    · have := kds_get h1 hk'
      show Dp K H' (kV k) ((kds.map fun p => kD p.1).getD i .none)
      rw [List.getD_eq_getElem?_getD, this]
      show Dp K H' (kV k) (kD k)
      cases k with
      | inl i => exact .int i
      | inr x => exact .str x
    · obtain ⟨v2, h3, h4⟩ := dps_get (dps_sm ((s1.trans s2).trans s') w ok h2) (getD_at (dflt := PyData.none) (show i < (kds.map (·.2)).length by rw [List.length_map]; exact hi))
      rw [List.getElem?_map, hk'] at h3
      have : vv = v2 := Option.some.inj h3
      subst this
      exact h4
theorem src_vals {p : Addr} {od : Obj} {kvs : List (Key × V)} {kds : List (Key × PyData)} (hd : Gv m td σ H (.ref p)) (hp : H p = some (.frz od (.dK kvs))) (w : Wm m H) (h1 : kvs.map (·.1) = kds.map (·.1)) (h2 : DpAll K H (kvs.map (·.2)) (kds.map (·.2))) (ok : okDs m (kds.map (·.2))) :
    Src1 K m (iVals td) σ H kds.length (fun i => (kds.map (·.2)).getD i .none) := fun H1 s1 w1 R q =>
  hd H1 s1 w1 _ fun v H2 s2 w2 pv => by
    subst pv
    have hp2 : H2 p = some (.frz od (.dK kvs)) := (s1.trans s2).at w hp fun _ e => by cases e
    have el : kvs.length = kds.length := by have := congrArg List.length h1; simpa using this
    refine ⟨p, od, kvs, rfl, hp2, q _ H2 (fun H => H p = some (.frz od (.dK kvs))) _ s2 w2 (by rw [← el]; exact walk_values) (fun H' s' w' => s'.at w2 hp2 fun _ e => by cases e) fun i v H' H'' hi s' w' y => ?_⟩
    obtain ⟨e1, k, hk⟩ := y
    refine ⟨e1, ?_⟩
    obtain ⟨v2, h3, h4⟩ := dps_get (dps_sm ((s1.trans s2).trans s') w ok h2) (getD_at (dflt := PyData.none) (show i < (kds.map (·.2)).length by rw [List.length_map]; exact hi))
    rw [List.getElem?_map, hk] at h3
    have : v = v2 := Option.some.inj h3
    subst this
    exact h4
theorem gv_fldm' {r dx d ty : Addr} {ls : List Nat} (hr : Gv m ta σ H (.ref r)) (h : H r = some (.ins C dx (rdF ls d ty))) (w : Wm m H) {mg : Str → Option Value} (T : Txt K mg C) : Gv m (tFld K ta "own_moves") σ H (.ref d) := fun H1 s1 w1 Q q =>
  hr H1 s1 w1 _ fun v H2 s2 w2 p => by
    subst p
    exact ⟨r, C, dx, _, _, rfl, (s1.trans s2).at w h (fun _ e => by cases e), T.cl, T.nm, rdF_m _ _ _, q _ H2 s2 w2 rfl⟩
end

/-! ### the order of the states -/
theorem push_fst (A : Aut) (q : Nat) (w : List Nat) (L : Lst) (c : Nat) : (A.push q w L c).map (·.1) = if A.mv c q ∈ L.map (·.1) then L.map (·.1) else L.map (·.1) ++ [A.mv c q] := by
  unfold Aut.push
  by_cases h : A.mv c q ∈ L.map (·.1)
  · rw [if_pos h, if_pos h]
  · rw [if_neg h, if_neg h, List.map_append]; rfl
theorem fold_take {β : Type} (g : β → Nat → β) (b : β) (l : List Nat) {i : Nat} (h : i < l.length) : (l.take (i + 1)).foldl g b = g ((l.take i).foldl g b) (l.getD i 0) := by
  rw [List.take_add_one, List.getElem?_eq_getElem h, getD_of h, List.foldl_append]
  rfl
theorem bfsAt_next {A : Aut} {s k : Nat} {p : Nat × List Nat} (h : (A.bfsAt s k)[k]? = some p) : A.bfsAt s (k + 1) = A.ls.foldl (A.push p.1 p.2) (A.bfsAt s k) := by
  show A.proc (A.bfsAt s k) k = _
  unfold Aut.proc
  rw [h]
theorem rowL_get {l : List Nat} {i q : Nat} (h : l[i]? = some q) : (l.map fun q : Nat => PyData.int (q : Int))[i]? = some (.int (q : Int)) := by rw [List.getElem?_map, h]; rfl
theorem rowL_snoc (l : List Nat) (q : Nat) : (l.map fun q : Nat => PyData.int (q : Int)) ++ [.int (q : Int)] = (l ++ [q]).map fun q : Nat => PyData.int (q : Int) := by rw [List.map_append]; rfl
/-- places by states -/
def placesD (O : List Nat) : List (Key × PyData) := (List.range O.length).map fun i => ((Sum.inl (O.getD i 0 : Int) : Key), .int (i : Int))
theorem lkD_at : ∀ {kds : List (Key × PyData)} {i : Nat} {k : Key} {d : PyData}, (kds.map (·.1)).Nodup → kds[i]? = some (k, d) → lkD kds k = some d
  | [], _, _, _, _, h => by simp at h
  | (k1, d1) :: r, 0, k, d, hn, h => by
    have e : (k1, d1) = (k, d) := Option.some.inj h
    cases e
    exact lkD_pos
  | (k1, d1) :: r, i + 1, k, d, hn, h => by
    rw [List.map_cons, List.nodup_cons] at hn
    have h' : r[i]? = some (k, d) := h
    have hne : ¬ k1 = k := fun e => hn.1 (by rw [e]; exact List.mem_map.mpr ⟨_, List.mem_of_getElem? h', rfl⟩)
    rw [lkD_neg hne]
    exact lkD_at hn.2 h'
theorem places_look {O : List Nat} (hn : O.Nodup) {q : Nat} (hq : q ∈ O) : lkD (placesD O) (Sum.inl (q : Int)) = some (.int (O.idxOf q : Int)) := by
  have hi := List.idxOf_lt_length_of_mem hq
  refine lkD_at (i := O.idxOf q) ?_ ?_
  · unfold placesD
    rw [List.map_map]
    have e : (List.range O.length).map ((fun x : Key × PyData => x.1) ∘ fun i => ((Sum.inl (O.getD i 0 : Int) : Key), PyData.int (i : Int))) = O.map fun q : Nat => (Sum.inl (q : Int) : Key) := by
      refine List.ext_getElem (by simp) fun i h1 h2 => ?_
      simp at h1 h2
      simp [List.getD_eq_getElem?_getD, h1]
    rw [e]
    exact nd_map_on hn fun x _ y _ h => by have := Sum.inl.inj h; omega
  · unfold placesD
    rw [List.getElem?_map, List.getElem?_range hi]
    show some ((Sum.inl (O.getD (O.idxOf q) 0 : Int) : Key), PyData.int (O.idxOf q : Int)) = _
    rw [getD_of hi, List.getElem_idxOf]

/-- name = {..} on one line, the name a local -/
theorem ps_setDc {X : Cx} {kx vx tg iter : Expr} {ifs : List Expr} {scope : Scope} {own : List (Str × Nat)} {pos spos : Pos} {wi : TI} {g : TG} {tt : TT} {tk tv : TE} {i : Nat} {y : Str} {py : Pos} (hc : X.calm = true) (hN : X.N.Nodup) (hy : X.N[i]? = some y) (hyl : X.env.scope.names.lookup y = some .local)
    (hsw : swapsWith (.DictComp kx vx [⟨tg, iter, ifs, 0⟩] scope pos) (some (.Name y py)) spos.line X.env = pure true) (hi : PI X tg iter wi) (ok : BlkOk X.N X.env.scope scope own)
    (hg : ∀ (s : Shared) (H : Hp) (C : Addr) (cl : List (Str × Addr)) (fp : List Addr), PG (X.blk s H scope (compEnvC scope cl C X.env) fp) tg g) (ht : ∀ (s : Shared) (H : Hp) (C : Addr) (cl : List (Str × Addr)) (fp : List Addr), PTs (X.blk s H scope (compEnvC scope cl C X.env) fp) ifs tt)
    (hk : ∀ (s : Shared) (H : Hp) (C : Addr) (cl : List (Str × Addr)) (fp : List Addr), PE (X.blk s H scope (compEnvC scope cl C X.env) fp) kx tk)
    (he : ∀ (s : Shared) (H : Hp) (C : Addr) (cl : List (Str × Addr)) (fp : List Addr), PE (X.blk s H scope (compEnvC scope cl C X.env) fp) vx tv) (hs : ∀ x, foldedSetIterable iter X.env x = pure x := by intro _; rfl) :
    PS X (.Assign [.Name y py] (.DictComp kx vx [⟨tg, iter, ifs, 0⟩] scope pos) spos) (tAsg (tDc wi g tt tk tv (own.map (·.2))) (gName i)) := by
  refine ⟨fun pins s σ H D I h => ?_⟩
  rw [PySem.exec_Assign_Name_used _ _ _ _ hsw]
  refine wpAny_bind (wpAny_standAt (wpAny_bind ?_))
  show wpAny _ X.A (do let _ ← comprehension (.DictComp kx vx [⟨tg, iter, ifs, 0⟩] scope pos) scope X.env (firstIterPos [⟨tg, iter, ifs, 0⟩] pos) newDict false (eval iter X.env) (some (assign (.Name y py) X.env))) _ _ s
  have h : tDc wi g tt tk tv (own.map (·.2)) σ H (fun x H1 => gName i x σ H1 D.nx) := h
  refine wpAny_bind (thn (dc_core (Qf := fun _ s' => SP X pins D .next s') hc hN I hi ok hg ht hk he hs h fun L C s' m H' I' q hn f => ?_) fun _ s' hq => wpAny_pure (wpAny_pure hq))
  show wpAny _ _ (assign (.Name y py) X.env (.ref L)) _ _ _
  refine wpAny_assign_Name (store_ok2 (v := V.ref L) I' hN hy (.inl hyl) rfl (fun s2 I2 ⟨a, sb, ha⟩ => ?_) (.inr hyl))
  obtain ⟨f0, f1, f2, f3, f4, f5⟩ := f
  have haC : C ≠ a := by
    rcases ha with z | z
    · rw [z]; exact f1
    · exact fun e => f4 y a z e.symm
  refine ⟨m, hn.sameBut sb haC, fun h3 sb3 => ?_⟩
  exact ⟨_, H', I2.turned (t' := s2.toks) (fun b o hb e => (sb3.2 b hb).trans e) f0 f1 f3 f4 f5, q⟩
theorem sw_trueD {kx vx : Expr} {gs : List Comprehension} {scope : Scope} {pos py : Pos} {y : Str} {l : Nat} {env : Env} (hk : env.scope.kind = .function) (hy : env.scope.names.lookup y = some .local) (hl : (py.line == pos.line) = true)
    (ha : (scope.names.any fun (n, k) => n == y && (k == .local || k == .cell)) = false) : swapsWith (.DictComp kx vx gs scope pos) (some (.Name y py)) l env = pure true := by
  have ky : env.kindOf y = some .local := hy
  have hb : env.blockKind = .function := by unfold Env.blockKind; rw [hk]; rfl
  unfold swapsWith
  simp only [hb, ky, ha, Expr.pos, hl]
  rfl
section
variable {K : PySem.W.Frag} {m : List Addr} {σ : L2.St} {H H' : Hp} {te : TE} {t : TA} {D : Ends} {u : TS} {i : Nat}
theorem GetsA.imp {P P' : List V → Hp → Prop} (h : GetsA m t σ H P) (f : ∀ v H1, Sm m H H1 → Wm m H1 → P v H1 → P' v H1) : GetsA m t σ H P' := fun H1 a w Q q => h H1 a w Q fun v H2 s w2 p => q v H2 s w2 (f v H2 (a.trans s) w2 p)
/-- name = .., a dict locked meanwhile -/
theorem rq_lockAsg {p : Addr} {kvs : List (Key × V)} {P : V → Hp → Prop} (hp : H p = some (.dK kvs)) (h : ∀ od, Gets [] te σ (upd H p (.frz od (.dK kvs))) fun v H2 => H2 p = some (.frz od (.dK kvs)) → P v (upd H2 p (.dK kvs)))
    (k : ∀ v H1, Sm [] H H1 → P v H1 → u D (σ.set i (some v)) H1) : tSeq (tLock (tAsg te (gName i))) u D σ H := by
  refine ⟨p, .dK kvs, hp, True.intro, fun od => ?_⟩
  refine (h od).go (Q := fun v H1 => H1 p = some (.frz od (.dK kvs)) ∧ u D (σ.set i (some v)) (upd H1 p (.dK kvs))) fun v H2 s2 pv => ?_
  have hp2 : H2 p = some (.frz od (.dK kvs)) := s2 p _ (by simp) upd_same
  refine ⟨hp2, k v _ (fun b o _ ho => ?_) (pv hp2)⟩
  by_cases e : b = p
  · subst e
    rw [hp] at ho
    cases ho
    exact upd_same
  · rw [upd_ne e]
    exact s2 b o (by simp) (by rw [upd_ne e]; exact ho)
end
end K29
namespace K29
open PySem L2
theorem RAt.sm0 {K : PySem.W.Frag} {C : Addr} {H H' : Hp} {r d ty : Addr} {A : Aut} (R : RAt K C H r A d ty) (s : Sm [] H H') : RAt K C H' r A d ty := R.sm s Wm.nil
theorem src_of {K : PySem.W.Frag} {m : List Addr} {wi : TI} {σ : L2.St} {H : Hp} {n n' : Nat} {E E' : Nat → PyData} (h : Src1 K m wi σ H n E) (hn : n = n') (he : ∀ i, i < n → E i = E' i) : Src1 K m wi σ H n' E' := by
  subst hn
  intro H1 s1 w1 R q
  exact h H1 s1 w1 R fun J H2 G Y s2 w2 W hG hY => q J H2 G Y s2 w2 W hG fun i x H' H'' hi s w y => by rw [← he i hi]; exact hY i x H' H'' hi s w y
theorem src_of2 {K : PySem.W.Frag} {m : List Addr} {wi : TI} {σ : L2.St} {H : Hp} {n n' : Nat} {E E' F F' : Nat → PyData} (h : Src2 K m wi σ H n E F) (hn : n = n') (he : ∀ i, i < n → E i = E' i) (hf : ∀ i, i < n → F i = F' i) : Src2 K m wi σ H n' E' F' := by
  subst hn
  intro H1 s1 w1 R q
  exact h H1 s1 w1 R fun J H2 G Y s2 w2 W hG hY => q J H2 G Y s2 w2 W hG fun i x H' H'' hi s w y => by rw [← he i hi, ← hf i hi]; exact hY i x H' H'' hi s w y

theorem push_len (A : Aut) (q : Nat) (w : List Nat) (L : Lst) (c : Nat) : (A.push q w L c).length ≤ L.length + 1 := by
  unfold Aut.push
  split
  · omega
  · rw [List.length_append]; simp
theorem fold_push_len (A : Aut) (q : Nat) (w : List Nat) : ∀ (cs : List Nat) (L : Lst), (cs.foldl (A.push q w) L).length ≤ L.length + cs.length
  | [], L => by simp
  | c :: cs, L => by
    have := fold_push_len A q w cs (A.push q w L c)
    have := push_len A q w L c
    rw [List.foldl_cons, List.length_cons]
    omega
theorem bfs_closed {A : Aut} (ok : A.Ok) {s c q : Nat} (hs : s < A.n) (hc : c ∈ A.ls) (hq : q ∈ (A.bfs s).map (·.1)) : A.mv c q ∈ (A.bfs s).map (·.1) := by
  have BA := bfs_all ok hs
  obtain ⟨p, hp, rfl⟩ := List.mem_map.mp hq
  have ho : Over A.ls (p.2 ++ [c]) := fun x hx => by
    rcases List.mem_append.mp hx with h | h
    · exact BA.over p hp x h
    · simp at h; subst h; exact hc
  obtain ⟨w', h1, _⟩ := BA.least _ ho
  have e : A.run s (p.2 ++ [c]) = A.mv c p.1 := by rw [run_snoc, BA.run p hp]
  rw [e] at h1
  exact List.mem_map.mpr ⟨_, h1, rfl⟩
section
variable {P : Program} {w : World} {K : PySem.W.Frag} {mg : Str → Option Value} {base : Heap} {f C : Addr} {fd : FuncData}
abbrev N_reader_from : List Str := ["reader", "start", "order", "at", "ways", "state", "places", "moves", "letter", "place", "row"]
theorem sc_reader_from : FnScope N_reader_from ["reader", "start"] (defScope s_reader_from) := ⟨rfl, rfl, rfl, by decide +kernel, rfl, by decide +kernel, by decide +kernel⟩
/-- a promise that hands back a reader -/
def GivesR (K : PySem.W.Frag) (C : Addr) (H : Hp) (Q : VK) (A : Aut) : Prop := ∀ r H', Sm [] H H' → RdAt K C H' r A → Q (.ref r) H'
def sp_reader_from (K : PySem.W.Frag) (C : Addr) : Sp := fun vs H Q _ => ∃ (A : Aut) (r : Addr) (s : Nat), vs = [.ref r, .int (s : Int)] ∧ A.Ok ∧ RdAt K C H r A ∧ s < A.n ∧ GivesR K C H Q (rf A s)
theorem rf_moves (A : Aut) (s : Nat) : movesD (rf A s) = A.ls.map fun c => (ck c, rowD (((A.bfs s).map (·.1)).map fun q => ((A.bfs s).map (·.1)).idxOf (A.mv c q))) := by
  unfold movesD
  refine List.map_congr_left fun c hc => ?_
  have e : (rf A s).row c = ((A.bfs s).map (·.1)).map fun q => ((A.bfs s).map (·.1)).idxOf (A.mv c q) := by
    unfold rf
    rw [relab_row (A := A) (show c ∈ A.ls from hc), List.map_map]
    rfl
  rw [e]
theorem ok_reader_from (F : Fun K "reader_from" "reader_from" s_reader_from f fd) (T : Txt K mg C) (RM : RdMk P w K mg base C) : FnOk P w K mg base CX0 7 f fd ["reader", "start"] (sp_reader_from K C) := by
  refine F.ok sc_reader_from (fun vs H Q E h => ?_) (fun cdv A outer s H vs Q E hr h => ?_)
  · obtain ⟨A, r, q, rfl, _⟩ := h
    rfl
  · obtain ⟨B, r, s0, rfl, ok, ⟨d, ty, R⟩, hs0, q⟩ := h
    have nd := sc_reader_from.nd
    have hu := hu_of hr
    refine ⟨_, (pss_cons (ps_asg (pe_tup (pa_cons (pe_lst (pa_cons (pv 1) pa_nil)) (pa_cons pe_int pa_nil))) (pg_tup rfl (pgs_cons (pg_name (i := 2) nd rfl (.inr rfl)) (pgs_cons (pg_name (i := 3) nd rfl (.inr rfl)) pgs_nil))))
  (pss_cons (ps_while PassesOwn.never (pt_cmpR op_lt (pv 3) (pe_callB (lenSeq_ K) (by rfl) T.len PySem.boot_len (pa_cons (pv 2) pa_nil)) (nomark _)) 
    (pss_cons (ps_setLc (i := 4) (own := [("letter", 8)]) rfl nd rfl rfl (sw_true rfl rfl rfl (by decide +kernel)) (pi_str (pe_fldK (K := K) (pv 0))) (blkOk_by (N := N_reader_from) (sc := defScope s_reader_from) (by decide +kernel)) (fun _ _ _ _ _ => (pg_name (i := 8) nd rfl (.inl rfl) (hf := .inr rfl))) (fun _ _ _ _ _ => pts_nil) (fun _ _ _ _ _ => (pe_ix (ixT_ K) (pe_dget hu (pe_fldK (K := K) (pv 0)) (pv 8) (fun _ _ => rfl)) (pe_ix (ixL_ K) (pv 2) (pv 3) (fun _ _ => rfl)) (fun _ _ => rfl))))
    (pss_cons (ps_for PassesOwn.never rfl (pi_listK (K := K) (pv 4)) (pg_name (i := 5) nd rfl (.inl rfl)) 
      (pss_one (ps_set (i := 2) nd rfl (.inr rfl) (pe_ifExp (pt_cmpR (inSeq_ K) (pv 5) (pv 2) (by rfl)) (pv 2) (pe_lst (pa_starK (K := K) (pv 2) (pa_cons (pv 5) pa_nil)))))))
    (pss_one (ps_aug (i := 3) nd rfl (.inr rfl) pe_int ip_add)))))
  (pss_cons (ps_set (i := 6) nd rfl (.inr rfl) (pe_dc (own := [("place", 9), ("state", 5)]) rfl nd (pi_enumK (K := K) (by rfl) T.enumerate (pa_cons (pv 2) pa_nil)) (blkOk_by (N := N_reader_from) (sc := defScope s_reader_from) (by decide +kernel)) (fun _ _ _ _ _ => (pg_tupK (K := K) (n := 2) rfl (pgs_cons (pg_name (i := 9) nd rfl (.inl rfl) (hf := .inr rfl)) (pgs_cons (pg_name (i := 5) nd rfl (.inl rfl) (hf := .inr rfl)) pgs_nil)))) (fun _ _ _ _ _ => pts_nil) (fun _ _ _ _ _ => (pv 5)) (fun _ _ _ _ _ => (pv 9))))
  (pss_cons (ps_lock (ps_setDc (i := 7) (own := [("letter", 8), ("row", 10)]) rfl nd rfl rfl (sw_trueD rfl rfl rfl (by decide +kernel)) (pi_items (pe_fldK (K := K) (pv 0))) (blkOk_by (N := N_reader_from) (sc := defScope s_reader_from) (by decide +kernel)) (fun _ _ _ _ _ => (pg_tupK (K := K) (n := 2) rfl (pgs_cons (pg_name (i := 8) nd rfl (.inl rfl) (hf := .inr rfl)) (pgs_cons (pg_name (i := 10) nd rfl (.inr rfl) (hf := .inl rfl)) pgs_nil)))) (fun _ _ _ _ _ => pts_nil) (fun _ _ _ _ _ => (pv 8)) (fun _ _ _ _ _ => (pe_callTy (tupOf_ K) (by rfl) T.tuple (by decide +kernel) (pa_cons (pe_lc (own := [("state", 5)]) rfl nd (pi_listK (K := K) (pv 2)) (blkOk_by (N := N_reader_from) (sc := relS _ (defScope s_reader_from)) (by decide +kernel)) (fun _ _ _ _ _ => (pg_name (i := 5) nd rfl (.inl rfl) (hf := .inr rfl))) (fun _ _ _ _ _ => pts_nil) (fun _ _ _ _ _ => (pe_dget hu (pv 6) (pe_ix (ixT_ K) (pv 10) (pv 5) (fun _ _ => rfl)) (fun _ _ => rfl)))) pa_nil)))))
  (pss_one (ps_ret (pe_mkR RM hr (pa_cons (pe_fldK (K := K) (pv 0)) (pa_cons (pv 7) (pa_cons (pe_callTy (tupOf_ K) (by rfl) T.tuple (by decide +kernel) (pa_cons (pe_lc (own := [("state", 5)]) rfl nd (pi_listK (K := K) (pv 2)) (blkOk_by (N := N_reader_from) (sc := defScope s_reader_from) (by decide +kernel)) (fun _ _ _ _ _ => (pg_name (i := 5) nd rfl (.inl rfl) (hf := .inr rfl))) (fun _ _ _ _ _ => (pts_one (pt_cmpR (inSeq_ K) (pv 5) (pe_fldK (K := K) (pv 0)) (by rfl)))) (fun _ _ _ _ _ => (pe_dget hu (pv 6) (pv 5) (fun _ _ => rfl)))) pa_nil)) pa_nil)))))))))), ?_⟩
    have hfst : ∀ k, ((B.bfsAt s0 k).map (·.1)).length ≤ B.n := fun k => by rw [List.length_map]; exact bfsAt_len ok hs0 k
    have h60 := ok.n60
    have hl3 := ok.l3
    refine rq_asg2 (K := K) (d1 := rowL ((B.bfsAt s0 0).map (·.1))) (d2 := .int (0 : Nat)) (gd_tup (ga_cons (gd_lst (ga_cons (gd_vi (n := (s0 : Int)) rfl) ga_nil) (show 1 ≤ 100000 by omega)) (ga_cons gd_i ga_nil)) (show 2 ≤ 100000 by omega)) fun v1 v2 H1 s1 p1 p2 => ?_
    cases dp_int p2
    refine rq_while (fun k' σ' H' => ∃ (k : Nat) (v : V) (w4 w5 : Option V), k' = 100 - k ∧ k ≤ B.n ∧ Sm [] H H' ∧ Dp K H' v (rowL ((B.bfsAt s0 k).map (·.1))) ∧ σ' = [some (.ref r), some (.int (s0 : Int)), some v, some (.int (k : Int)), w4, w5, none, none, none, none, none])
      100 ⟨0, v1, none, none, rfl, Nat.zero_le _, s1, p1, rfl⟩ fun k' σ' H' hW => ?_
    obtain ⟨k, v, w4, w5, rfl, hk, s2, p2, rfl⟩ := hW
    have hfk := hfst k
    refine ⟨decide (k < ((B.bfsAt s0 k).map (·.1)).length), GetsT.is (gt_test (K := K) (gd_lt (gd_vi (n := (k : Int)) rfl) (gd_lenS (n := ((B.bfsAt s0 k).map (·.1)).length) (ga_cons (gd_var rfl Wm.nil p2) ga_nil) (by simp only [List.length_map])))) (by simp only [Int.ofNat_lt]), fun hlt H1 s3 N hN => ?_, fun hge H1 s3 => ?_⟩
    · have hlt := of_decide_eq_true hlt
      have hlt' : k < (B.bfsAt s0 k).length := by rw [List.length_map] at hlt; exact hlt
      have hkn := Nat.lt_of_lt_of_le hlt hfk
      obtain ⟨pq, hpq⟩ : ∃ pq, (B.bfsAt s0 k)[k]? = some pq := ⟨_, List.getElem?_eq_getElem hlt'⟩
      have hpl : pq.1 < B.n := (bfsAt_ok ok hs0 k).lt pq (List.mem_of_getElem? hpq)
      have hat : ((B.bfsAt s0 k).map (·.1))[k]? = some pq.1 := by rw [List.getElem?_map, hpq]; rfl
      refine rq_asg (Gets.is (gd_lc1 (K := K) (n := B.ls.length) (fun i => .int (B.mv (B.ls.getD i 0) pq.1 : Int)) (src_str (l := B.ls) (gd_fld_l (gv_var rfl) (R.sm0 (s2.trans s3)) Wm.nil T)) (by omega) fun i x H' hi s w hx => ?_) rfl) fun vw H3 s4 pw => ?_
      · cases dp_str hx
        exact gd_mv (K := K) (c := B.ls.getD i 0) (i := pq.1) ok (gv_var rfl) (R.sm0 ((s2.trans s3).trans s)) Wm.nil T (gd_vs rfl) (ls_getD hi) (gd_ixL (gd_var rfl Wm.nil (dp_sm0 (s3.trans s) p2)) (gd_vi rfl) (rowL_get hat)) hpl
      · refine rq_for1 (K := K) (n := B.ls.length) (E := fun i => .int (B.mv (B.ls.getD i 0) pq.1 : Int)) (src_of (src_list (gd_var rfl Wm.nil pw)) (by simp) fun i hi => by
            rw [List.length_map, List.length_range] at hi
            simp [List.getD_eq_getElem?_getD, hi])
          (fun i σ' H' => ∃ (v : V) (w5 : Option V), Sm [] H H' ∧ Dp K H' v (rowL (((B.ls.take i).foldl (B.push pq.1 pq.2) (B.bfsAt s0 k)).map (·.1))) ∧ σ' = [some (.ref r), some (.int (s0 : Int)), some v, some (.int (k : Int)), some vw, w5, none, none, none, none, none])
          (fun H5 s5 => ⟨v, w5, ((s2.trans s3).trans s4).trans s5, dp_sm0 ((s3.trans s4).trans s5) p2, rfl⟩) (fun i x σ' H' N' hi s hP hx kk => ?_) fun σ' H' s hP => ?_
        · obtain ⟨v', w5, s6, p6, rfl⟩ := hP
          cases dp_int hx
          have e1 := fold_take (B.push pq.1 pq.2) (B.bfsAt s0 k) B.ls hi
          have e2 := push_fst B pq.1 pq.2 ((B.ls.take i).foldl (B.push pq.1 pq.2) (B.bfsAt s0 k)) (B.ls.getD i 0)
          have hlen : (((B.ls.take i).foldl (B.push pq.1 pq.2) (B.bfsAt s0 k)).map (·.1)).length ≤ B.n + 3 := by
            have := fold_push_len B pq.1 pq.2 (B.ls.take i) (B.bfsAt s0 k)
            rw [List.length_map] at hfk ⊢
            have h3 : (B.ls.take i).length ≤ B.ls.length := by rw [List.length_take]; omega
            omega
          rw [← e1] at e2
          generalize (((B.ls.take i).foldl (B.push pq.1 pq.2) (B.bfsAt s0 k)).map (·.1)) = O at *
          generalize hg : B.mv (B.ls.getD i 0) pq.1 = z at *
          have hgi : Gd K [] (tVar 5) [some (.ref r), some (.int (s0 : Int)), some v', some (.int (k : Int)), some vw, some (.int (z : Int)), none, none, none, none, none] H' (.int (z : Int)) := gd_vi rfl
          refine r_asg (P := fun v H1 => Dp K H1 v (rowL (if z ∈ O then O else O ++ [z]))) (gd_if (b := decide (z ∈ O)) (gt_test (K := K) (gd_op hgi (gd_var rfl Wm.nil p6) rd_inL)) (fun h => ?_) fun h => ?_) fun v8 H8 s8 p8 => kk _ _ s8 ⟨v8, some (.int (z : Int)), s6.trans s8, ?_, rfl⟩
          · rw [if_pos (of_decide_eq_true h)]
            exact gd_var rfl Wm.nil p6
          · rw [if_neg (of_decide_eq_false h)]
            exact Gets.is (gd_lst (ga_star (gd_var rfl Wm.nil p6) (ga_cons hgi ga_nil)) (by simp; omega)) (congrArg PyData.list (rowL_snoc O z))
          · rw [e2]; exact p8
        · obtain ⟨v', w5, s6, p6, rfl⟩ := hP
          rw [List.take_length, ← bfsAt_next hpq] at p6
          refine r_aug (K := K) (a := (k : Int)) (b := 1) rfl gd_i fun H7 s7 => hN (100 - (k + 1)) _ _ (by omega) ⟨k + 1, v', some vw, w5, rfl, by omega, s6.trans s7, dp_sm0 s7 p6, rfl⟩
    · have hge := of_decide_eq_false hge
      rw [List.length_map] at hge
      rw [bfsAt_done ok hs0 (by omega)] at p2
      have BA := bfs_all ok hs0
      have hnd : ((B.bfs s0).map (·.1)).Nodup := BA.nd
      have hln : ((B.bfs s0).map (·.1)).length ≤ 60 := by have : ((B.bfs s0).map (·.1)).length ≤ B.n := hfst B.n; omega
      have hOn : ∀ {i}, i < ((B.bfs s0).map (·.1)).length → ((B.bfs s0).map (·.1)).getD i 0 < B.n := fun {i} hi => by
        have hm : ((B.bfs s0).map (·.1)).getD i 0 ∈ (B.bfs s0).map (·.1) := by rw [getD_of hi]; exact List.getElem_mem hi
        obtain ⟨p, hp, e⟩ := List.mem_map.mp hm
        rw [← e]; exact BA.lt p hp
      have hOm : ∀ {c i}, c ∈ B.ls → i < ((B.bfs s0).map (·.1)).length → B.mv c (((B.bfs s0).map (·.1)).getD i 0) ∈ (B.bfs s0).map (·.1) := fun {c i} hc hi => bfs_closed ok hs0 hc (by rw [getD_of hi]; exact List.getElem_mem hi)
      have emv := rf_moves B s0
      have eyes : (rf B s0).yes = (List.range ((B.bfs s0).map (·.1)).length).filter fun i => B.acc (((B.bfs s0).map (·.1)).getD i 0) := by
        unfold rf relab
        simp only [List.length_map]
      generalize hO : (B.bfs s0).map (·.1) = O at *
      have p3 := dp_sm0 s3 p2
      have s23 := s2.trans s3
      clear hfst
      refine rq_asg (P := NewDict K (placesD O)) (gets_dc2 (n := O.length) (fun i => Sum.inl (O.getD i 0 : Int)) (fun i => .int (i : Int)) (src_of2 (F' := fun i => .int (O.getD i 0 : Int)) (src_enum (ga_cons (gd_var rfl Wm.nil p3) ga_nil)) (by rw [List.length_map]) (fun _ _ => rfl) fun i hi => row_getD (by rw [List.length_map] at hi; exact hi)) (by omega) (fun i j hi hj e => ?_) (fun i x y H' hi s w hx hy => ?_) (fun i x y H' hi s w hx hy => ?_) fun _ _ => rfl) fun vp H4 s4 hpp => ?_
      · have e' := Sum.inl.inj e
        rw [getD_of hi, getD_of hj] at e'
        exact (List.getElem_inj hnd).mp (by omega)
      · cases dp_int hy
        exact gd_vi rfl
      · cases dp_int hx
        exact gd_vi rfl
      obtain ⟨pp, rfl, hpp⟩ := hpp
      obtain ⟨⟨dx, hr1⟩, ⟨kvs, hd1, hd2, hd3⟩, hy1⟩ := R.sm0 (s23.trans s4)
      have p4 := dp_sm0 s4 p3
      have hne : pp ≠ d := fun e => by
        subst e
        obtain ⟨ks, e1, e2, _⟩ := hpp.ex
        rw [hd1] at e1
        cases e1
        rw [hd2] at e2
        have l1 := ok.l1
        cases hls : B.ls with
        | nil => rw [hls] at l1; simp at l1
        | cons c cs =>
          unfold movesD at e2
          rw [hls] at e2
          cases hOc : O with
          | nil => rw [hOc] at e2; simp [placesD] at e2
          | cons o os =>
            rw [hOc] at e2
            unfold placesD at e2
            rw [List.length_cons, List.range_succ_eq_map] at e2
            simp [ck] at e2
      refine rq_lockAsg (P := NewDict K (movesD (rf B s0))) hd1 (fun od => ?_) fun vm H5 s5 hmm => ?_
      · have hr2 : (upd H4 d (.frz od (.dK kvs))) r = some (.ins C dx (rdF B.ls d ty)) := by rw [upd_ne (ne_of hr1 hd1 (by intro e; cases e))]; exact hr1
        have hpl := hpp.lock (od := od) hd1 hne
        have p5 := dp_lock (od := od) hd1 p4
        refine Gets.imp (gets_dc2 (K := K) (n := B.ls.length) (fun i => ck (B.ls.getD i 0)) (fun i => rowD (O.map fun q => O.idxOf (B.mv (B.ls.getD i 0) q))) (src_of2 (E' := fun i => .str (tx [B.ls.getD i 0])) (F' := fun i => rowD (B.row (B.ls.getD i 0))) (src_items (kds := movesD B) (gv_fldm' (gv_var rfl) hr2 Wm.nil T) upd_same Wm.nil hd2 (dps_lock hd1 hd3) (.inl rfl)) (by unfold movesD; rw [List.length_map]) (fun i hi => ?_) fun i hi => ?_) (by omega) (ls_inj ok) (fun i x y H' hi s w hx hy => gd_var rfl w hx) (fun i x y H' hi s w hx hy => ?_) fun i _ => noL_row _) fun v H6 s6 w6 hv _ => ?_
        · unfold movesD at hi ⊢
          rw [List.length_map] at hi
          simp [List.getD_eq_getElem?_getD, hi, kD, ck]
        · unfold movesD at hi ⊢
          rw [List.length_map] at hi
          simp [List.getD_eq_getElem?_getD, hi]
        · refine Gets.is (gd_tupleOf (ga_cons (gd_lc1 (K := K) (n := O.length) (fun j => .int (O.idxOf (B.mv (B.ls.getD i 0) (O.getD j 0)) : Int)) (src_of (E' := fun i => .int (O.getD i 0 : Int)) (src_list (gd_var rfl Wm.nil (dp_sm0 s p5))) (by rw [List.length_map]) fun j hj => row_getD (by rw [List.length_map] at hj; exact hj)) (by omega) fun j x' H7 hj s7 w7 hx' => ?_) ga_nil)) ?_
          · cases dp_int hx'
            refine gd_dget (k := Sum.inl (B.mv (B.ls.getD i 0) (O.getD j 0) : Int)) (gv_var rfl) (gd_ixT (n := O.getD j 0) (gd_var rfl Wm.nil (dp_sm0 s7 hy)) (gd_vi rfl) (rowD_get (row_get ok (ls_getD hi) (hOn hj)))) (hpl.sm (s.trans s7) Wm.nil) w7 (.inl rfl) (places_look hnd (hOm (ls_getD hi) hj))
          · unfold rowD
            congr 1
            rw [List.map_map]
            refine List.ext_getElem (by simp) fun j h1 h2 => ?_
            simp at h1 h2
            simp [List.getD_eq_getElem?_getD, h1]
        · obtain ⟨pm, rfl, hv⟩ := hv
          refine ⟨pm, rfl, ?_⟩
          have := hv.unlock (od := od) (by assumption)
          have em : ((List.range B.ls.length).map fun i => (ck (B.ls.getD i 0), rowD (O.map fun q => O.idxOf (B.mv (B.ls.getD i 0) q)))) = movesD (rf B s0) := by
            rw [emv]
            refine List.ext_getElem (by simp) fun j h1 h2 => ?_
            simp at h1 h2
            simp [List.getD_eq_getElem?_getD, h1]
          rw [em] at this
          exact this
      · obtain ⟨pm, rfl, hmm⟩ := hmm
        have R5 := R.sm0 ((s23.trans s4).trans s5)
        have p5 := dp_sm0 s5 p4
        refine r_ret (gets_make (A := rf B s0) (rf_ok ok hs0) (GetsA.imp (gA_cons (gv_str (gd_fld_l (gv_var rfl) R5 Wm.nil T)) (fun _ _ _ _ _ p => p) (gA_cons (gv_var rfl) (fun _ _ _ _ _ p => p) (gA_cons (P := fun v H1 => Dp K H1 v (rowD (rf B s0).yes)) (Gets.is (gd_tupleOf (ga_cons (gd_lcF1 (K := K) (n := O.length) (fun i => B.acc (O.getD i 0)) (fun i => .int (i : Int)) (src_of (E' := fun i => .int (O.getD i 0 : Int)) (src_list (gd_var rfl Wm.nil p5)) (by rw [List.length_map]) fun j hj => row_getD (by rw [List.length_map] at hj; exact hj)) (by omega) (fun i x H' hi s w hx => ?_) (fun i x H' hi hf s w hx => ?_)) ga_nil)) ?_) (fun _ _ _ s w p => dp_sm0 s p) gA_nil))) fun vs H6 s6 w6 hvs => ?_)) fun v H6 s6 p6 => ?_
        · cases dp_int hx
          exact gt_test (K := K) (gd_op (gd_vi (n := (O.getD i 0 : Int)) rfl) (gd_fld_y (gv_var rfl) (R5.sm0 s) Wm.nil T) rd_inT)
        · cases dp_int hx
          have := gd_dget (K := K) (k := Sum.inl (O.getD i 0 : Int)) (d := .int (O.idxOf (O.getD i 0) : Int)) (td := tVar 6) (ta := tVar 5) (m := []) (H := H') (σ := (wipe [some (.ref r), some (.int (s0 : Int)), some v, some (.int (k : Int)), w4, w5, some (.ref pp), some (.ref pm), none, none, none] [5]).set 5 (some (.int (O.getD i 0 : Int)))) (gv_var rfl) (gd_vi rfl) (hpp.sm (s5.trans s) Wm.nil) w (.inl rfl) (places_look hnd (by rw [getD_of hi]; exact List.getElem_mem hi))
          rw [show O.idxOf (O.getD i 0) = i by rw [getD_of hi]; exact idx_at hnd (List.getElem?_eq_getElem hi)] at this
          exact this
        · rw [eyes]; unfold rowD; congr 1
        · obtain ⟨v1, r1, rfl, rfl, v2, r2, rfl, rfl, v3, r3, rfl, h3, rfl⟩ := hvs
          obtain ⟨ty', xs, rfl, _, _⟩ := dp_tup h3
          exact ⟨pm, ty', rfl, hmm.sm s6 Wm.nil, h3⟩
        · obtain ⟨r', rfl, hR⟩ := p6
          exact q r' H6 (((s23.trans s4).trans s5).trans s6) hR
end
end K29
/-! numbers by rows: a dict whose keys are truth values, or tuples of an int and a tuple of ints -/
namespace K29
open PySem PySem.Spec PyProof.Rows L2

/-- a list of entries that tell their places -/
theorem val_at {K : Type} [DecidableEq K] : ∀ (kvs : List (K × Value)) (off : Nat) (k : K), (∀ (i : Nat) (p : K × Value), kvs[i]? = some p → ∃ t, p.2 = Value.int ((off + i : Nat) : Int) t) →
    (k ∈ kvs.map (·.1) → ∃ t, valueAt kvs k = some (Value.int ((off + (kvs.map (·.1)).idxOf k : Nat) : Int) t)) ∧ (k ∉ kvs.map (·.1) → valueAt kvs k = none)
  | [], off, k, h => ⟨fun h => by simp at h, fun _ => rfl⟩
  | p :: r, off, k, h => by
    have ih := val_at r (off + 1) k fun i q e => by
      obtain ⟨t, e2⟩ := h (i + 1) q (by rw [List.getElem?_cons_succ]; exact e)
      exact ⟨t, by rw [e2]; congr 2; omega⟩
    by_cases e : p.1 = k
    · refine ⟨fun _ => ?_, fun hn => absurd (List.mem_map.mpr ⟨p, by simp, e⟩) hn⟩
      obtain ⟨t, e2⟩ := h 0 p rfl
      refine ⟨t, ?_⟩
      rw [List.map_cons, ← e, List.idxOf_cons_self]
      unfold valueAt
      rw [List.find?_cons_of_pos (by simp)]
      show some p.2 = _
      rw [e2]
    · have e1 : valueAt (p :: r) k = valueAt r k := by
        unfold valueAt
        rw [List.find?_cons_of_neg (by simp [e])]
      refine ⟨fun hm => ?_, fun hn => ?_⟩
      · have hm' : k ∈ r.map (·.1) := by
          rw [List.map_cons] at hm
          rcases List.mem_cons.mp hm with z | z
          · exact absurd z.symm e
          · exact z
        obtain ⟨t, e2⟩ := ih.1 hm'
        refine ⟨t, ?_⟩
        rw [e1, e2, List.map_cons, List.idxOf_cons, show (p.1 == k) = false by simp [e]]
        congr 3
        simp
        omega
      · rw [e1]
        exact ih.2 fun hm => hn (by rw [List.map_cons]; exact List.mem_cons_of_mem _ hm)
theorem val_key : ∀ (kvs : List (Leaf × Value)) (k : Leaf), valueAt kvs k = valueAt (kvs.map fun p => (p.1.key, p.2)) k.key
  | [], _ => rfl
  | p :: r, k => by
    have ih := val_key r k
    unfold valueAt at ih ⊢
    rw [List.map_cons]
    by_cases e : p.1 = k
    · rw [List.find?_cons_of_pos (by simp [e]), List.find?_cons_of_pos (by simp [e])]
      rfl
    · rw [List.find?_cons_of_neg (by simp [e]), List.find?_cons_of_neg (by simpa using fun h => e (Leaf.key_inj h))]
      exact ih
theorem stored_new {K : Type} [DecidableEq K] {kvs : List (K × Value)} {k : K} {v : Value} (h : valueAt kvs k = none) : stored kvs k v = kvs ++ [(k, v)] := by
  unfold stored
  rw [if_neg]
  intro ha
  obtain ⟨p, hp, e⟩ := List.any_eq_true.mp ha
  unfold valueAt at h
  rw [Option.map_eq_none_iff, List.find?_eq_none] at h
  exact h p hp (by simpa using e)

/-- the entries at d, without the keys themselves -/
def DN0 (P : Program) (w : World) (h : Heap) (d : Addr) (xs : List (NestedKey × Addr × Value)) : Prop :=
  ∃ o es ep, h.get? d = some o ∧ o.ExactDict ∧ o.data = .dict es ep ∧ es.toList = xs.map (entryOfKey (nestedKind P w)) ∧ (xs.map (·.1)).Nodup
def KB (P : Program) (w : World) (d : Addr) (L : List NestedKey) : HO := .ext fun h => (d == sysModules) = false ∧ ∃ kvs : List (Leaf × Value), h.DictOf (leafKind P w) d kvs ∧ kvs.map (·.1.key) = L ∧ ∀ (i : Nat) (p : Leaf × Value), kvs[i]? = some p → ∃ t, p.2 = Value.int (i : Int) t
def KT (P : Program) (w : World) (d : Addr) (M : List (NestedKey × Addr)) : HO := .ext fun h => (d == sysModules) = false ∧ ∃ xs, DN0 P w h d xs ∧ xs.map (fun x => (x.1, x.2.1)) = M ∧ ∀ (i : Nat) (x : NestedKey × Addr × Value), xs[i]? = some x → ∃ t, x.2.2 = Value.int (i : Int) t
theorem kb_ok {P : Program} {w : World} {H : Hp} {h : Heap} {d : Addr} {L : List NestedKey} (hd : (d == sysModules) = false) {kvs : List (Leaf × Value)} (h1 : h.DictOf (leafKind P w) d kvs) (h2 : kvs.map (·.1.key) = L) (h3 : ∀ (i : Nat) (p : Leaf × Value), kvs[i]? = some p → ∃ t, p.2 = Value.int (i : Int) t) :
    ObjOk P w H h d (KB P w d L) := by
  refine ⟨⟨hd, kvs, h1, h2, h3⟩, ?_, fun a b x k => ?_⟩
  · obtain ⟨o, _, _, ho, _⟩ := h1
    exact ⟨o, ho⟩
  · obtain ⟨x1, ks, x2, x3⟩ := x
    exact ⟨x1, ks, x2.at k, x3⟩
theorem kt_ok {P : Program} {w : World} {H : Hp} {h : Heap} {d : Addr} {M : List (NestedKey × Addr)} (hd : (d == sysModules) = false) {xs : List (NestedKey × Addr × Value)} (h1 : DN0 P w h d xs) (h2 : xs.map (fun x => (x.1, x.2.1)) = M) (h3 : ∀ (i : Nat) (x : NestedKey × Addr × Value), xs[i]? = some x → ∃ t, x.2.2 = Value.int (i : Int) t) :
    ObjOk P w H h d (KT P w d M) := by
  refine ⟨⟨hd, xs, h1, h2, h3⟩, ?_, fun a b x k => ?_⟩
  · obtain ⟨o, _, _, ho, _⟩ := h1
    exact ⟨o, ho⟩
  · obtain ⟨x1, ks, ⟨o, es, ep, ho, x2⟩, x3⟩ := x
    exact ⟨x1, ks, ⟨o, es, ep, k o ho, x2⟩, x3⟩
/-- a key that is a tuple in the heap -/
def NK (K : PySem.W.Frag) (H : Hp) (k : NestedKey) (a : Addr) : Prop := ∃ (c : Int) (b : Addr) (cs : List Int), k = .tup [.num c, .tup (cs.map .num)] ∧ SqT K H a [.int c, .ref b] ∧ SqT K H b (cs.map .int)
theorem NK.sm {K : PySem.W.Frag} {m : List Addr} {H H' : Hp} {k : NestedKey} {a : Addr} (h : NK K H k a) (s : Sm m H H') (w : Wm m H) : NK K H' k a := by
  obtain ⟨c, b, cs, e, h1, h2⟩ := h
  exact ⟨c, b, cs, e, s.tup w h1, s.tup w h2⟩
def RowK (K : PySem.W.Frag) (t : Bool) (H : Hp) (k : NestedKey) (v : V) : Prop := if t = true then ∃ a, v = .ref a ∧ NK K H k a else ∃ b : Bool, v = .bl b ∧ k = .num (if b = true then 1 else 0)
theorem RowK.sm {K : PySem.W.Frag} {t : Bool} {m : List Addr} {H H' : Hp} {k : NestedKey} {v : V} (h : RowK K t H k v) (s : Sm m H H') (w : Wm m H) : RowK K t H' k v := by
  unfold RowK at h ⊢
  cases t with
  | true => obtain ⟨a, e, h⟩ := h; exact ⟨a, e, h.sm s w⟩
  | false => exact h
def KD (P : Program) (w : World) (K : PySem.W.Frag) (t : Bool) (H : Hp) (d : Addr) (L : List NestedKey) : Prop := if t = true then ∃ M, M.map (·.1) = L ∧ H d = some (KT P w d M) ∧ ∀ p ∈ M, NK K H p.1 p.2 else H d = some (KB P w d L)
theorem KD.at' {P : Program} {w : World} {K : PySem.W.Frag} {t : Bool} {H H' : Hp} {d : Addr} {L : List NestedKey} (h : KD P w K t H d L) (e : H' d = H d) (hT : ∀ b xs, SqT K H b xs → SqT K H' b xs) : KD P w K t H' d L := by
  unfold KD at h ⊢
  cases t with
  | true =>
    obtain ⟨M, h1, h2, h3⟩ := h
    refine ⟨M, h1, by rw [e]; exact h2, fun p hp => ?_⟩
    obtain ⟨c, b, cs, e1, h4, h5⟩ := h3 p hp
    exact ⟨c, b, cs, e1, hT _ _ h4, hT _ _ h5⟩
  | false => rw [← e] at h; exact h
theorem nested_ints {h : Heap} : ∀ {cs : List Int} {us : List Value}, Vals (cs.map V.int) us → NestedAll h (cs.map .num) us
  | [], _, .nil => .nil
  | c :: cs, _, .cons r t => by
    obtain ⟨tk, rfl⟩ := r
    exact .cons (.int _ _) (nested_ints t)
theorem depth_ints : ∀ cs : List Int, NestedKey.depthAll (cs.map .num) = 0
  | [] => rfl
  | c :: cs => by
    rw [List.map_cons]
    unfold NestedKey.depthAll
    rw [depth_ints cs]
    rfl
section
variable {X : Cx}
theorem inv_nested {pins : List (Addr × Obj)} {σ : L2.St} {H : Hp} {s : Shared} {k : NestedKey} {a : Addr} (I : Inv X pins σ H s) (h : NK X.K H k a) : (nestedKind X.prog X.w).is s.heap k a := by
  obtain ⟨c, b, cs, rfl, h1, h2⟩ := h
  obtain ⟨its, r, ⟨o, ho, hc, n, hd⟩, _⟩ := I.tuple h1
  obtain ⟨its2, r2, ⟨o2, ho2, hc2, n2, hd2⟩, _⟩ := I.tuple h2
  cases r with
  | cons ra rb => cases rb with
    | cons rb rc =>
      cases rc
      obtain ⟨tk, rfl⟩ := ra
      cases rb
      refine ⟨.tup ho hc hd ?_, ?_⟩
      · exact .cons (.int _ _) (.cons (.tup ho2 hc2 hd2 (by simpa using nested_ints r2)) .nil)
      · have := depth_ints cs
        simp [NestedKey.depth, NestedKey.depthAll, this]
theorem dn_full {pins : List (Addr × Obj)} {σ : L2.St} {H : Hp} {s : Shared} {d : Addr} {xs : List (NestedKey × Addr × Value)} (I : Inv X pins σ H s) (h : DN0 X.prog X.w s.heap d xs) (hk : ∀ x ∈ xs, NK X.K H x.1 x.2.1) : s.heap.DictOfH (nestedKind X.prog X.w) d xs := by
  obtain ⟨o, es, ep, h1, h2, h3, h4, h5⟩ := h
  exact ⟨o, es, ep, h1, h2, h3, h4, fun x hx => inv_nested I (hk x hx), h5⟩
theorem kd_type {pins : List (Addr × Obj)} {σ : L2.St} {H : Hp} {s : Shared} {t : Bool} {d : Addr} {L : List NestedKey} (I : Inv X pins σ H s) (h : KD X.prog X.w X.K t H d L) : ∃ o, s.heap.get? d = some o ∧ o.ExactDict := by
  unfold KD at h
  cases t with
  | true =>
    obtain ⟨M, _, h2, _⟩ := h
    obtain ⟨⟨_, xs, ⟨o, _, _, ho, hx, _⟩, _⟩, _⟩ := I.hok d _ h2
    exact ⟨o, ho, hx⟩
  | false =>
    obtain ⟨⟨_, xs, ⟨o, _, _, ho, hx, _⟩, _⟩, _⟩ := I.hok d _ h
    exact ⟨o, ho, hx⟩

def rSetN (P : Program) (w : World) (K : PySem.W.Frag) : V → List V → Hp → VK → Prop := fun x xs H Q => ∃ (t : Bool) (d : Addr) (L : List NestedKey) (k : NestedKey) (v : V), x = .ref d ∧ xs = [v, .int (L.length : Int)] ∧ KD P w K t H d L ∧ RowK K t H k v ∧ L.length ≤ 1000 ∧
  (k ∈ L → Q (.int (L.idxOf k : Int)) H) ∧ (k ∉ L → ∀ u, KD P w K t (upd H d u) d (L ++ [k]) → Q (.int (L.length : Int)) (upd H d u))
theorem mt_setN (hu : X.A.units + 64 < cLine) : MtR X "dict.setdefault" (rSetN X.prog X.w X.K) := by
  intro pins s σ H x xs v us Q I rx rxs h
  obtain ⟨t, d, L, k, y, rfl, rfl, hK, hR, hL, q1, q2⟩ := h
  cases rx
  obtain ⟨u1, u2, rfl, r1, r2⟩ := Vals.two rxs
  obtain ⟨tk, rfl⟩ := r2
  have hz : ∀ {n : Nat}, n ≤ 1000 → n ≤ sizeLine := fun h => Nat.le_trans h (by decide)
  cases t with
  | true =>
    obtain ⟨M, hM, hd, hN⟩ := hK
    obtain ⟨a, rfl, hk⟩ := hR
    cases r1
    obtain ⟨⟨hsm, ys, hys, hyM, hyv⟩, _⟩ := I.hok d _ hd
    have hkeys : ∀ x ∈ ys, NK X.K H x.1 x.2.1 := fun x hx => hN (x.1, x.2.1) (by rw [← hyM]; exact List.mem_map.mpr ⟨x, hx, rfl⟩)
    have dd := dn_full I hys hkeys
    have eL : (pairsH ys).map (·.1) = L := by rw [← hM, ← hyM]; unfold pairsH; rw [List.map_map, List.map_map]; rfl
    have elen : ys.length = L.length := by rw [← eL, List.length_map]; unfold pairsH; rw [List.length_map]
    have VA := val_at (pairsH ys) 0 k fun i p e => by
      unfold pairsH at e
      rw [List.getElem?_map] at e
      cases q : ys[i]? with
      | none => rw [q] at e; cases e
      | some x =>
        rw [q] at e
        have e' : (x.1, x.2.2) = p := Option.some.inj e
        subst e'
        obtain ⟨t, e2⟩ := hyv i x q
        exact ⟨t, by rw [e2]; congr 2; omega⟩
    rw [eL] at VA
    refine call_setdefault_heap (hsz := by rw [elen]; exact hz hL) (show X.A.in1.units + 8 < cLine by have : X.A.in1.units = X.A.units + 1 := rfl; omega) (inv_nested I hk) hsm dd (fun p hp => ?_) fun hn h' hm' hs => ?_
    · have hv : valueAt (pairsH ys) k = some p.2 := by rw [valueAt_pairsH, hp]; rfl
      have hm : k ∈ L := by
        refine Classical.byContradiction fun c => ?_
        rw [VA.2 c] at hv; cases hv
      obtain ⟨t, e2⟩ := VA.1 hm
      rw [e2] at hv
      rw [← Option.some.inj hv]
      exact ⟨.int (L.idxOf k : Int), H, I.tok _, ⟨t, by congr 2; omega⟩, q1 hm⟩
    · have hm : k ∉ L := fun hm => by
        obtain ⟨t, e2⟩ := VA.1 hm
        rw [valueAt_pairsH, hn] at e2; cases e2
      rw [storedH_new hn] at hm'
      obtain ⟨o, es, ep, g1, g2, g3, g4, g5, g6⟩ := hm'
      have nT : ∀ {b : Addr} {xs : List V}, SqT X.K H b xs → SqT X.K (upd H d (KT X.prog X.w d (M ++ [(k, a)]))) b xs := fun {b xs} q => by
        rcases q with (q | ⟨ob, q⟩) | q
        · exact .inl (.inl (by rw [upd_ne (ne_of q hd (by intro e; cases e))]; exact q))
        · exact .inl (.inr ⟨ob, by rw [upd_ne (ne_of q hd (by intro e; cases e))]; exact q⟩)
        · exact .inr q
      refine ⟨.int (L.length : Int), upd H d (KT X.prog X.w d (M ++ [(k, a)])), d_write I (by rw [hd]; exact True.intro) hs ⟨o, g1⟩ (kt_ok hsm ⟨o, es, ep, g1, g2, g3, g4, g6⟩ (by rw [List.map_append, hyM]; rfl) fun i x e => ?_), ⟨tk, rfl⟩, q2 hm _ ⟨M ++ [(k, a)], by rw [List.map_append, hM]; rfl, upd_same, fun p hp => ?_⟩⟩
      · by_cases hi : i < ys.length
        · rw [List.getElem?_append_left hi] at e
          exact hyv i x e
        · have hlt := (List.getElem?_eq_some_iff.mp e).1
          rw [List.length_append, List.length_singleton] at hlt
          have hi' : i = ys.length := by omega
          subst hi'
          rw [List.getElem?_append_right (Nat.le_refl _)] at e
          simp at e
          subst e
          exact ⟨tk, by rw [elen]⟩
      · rcases List.mem_append.mp hp with z | z
        · obtain ⟨c, b, cs, e1, h4, h5⟩ := hN p z
          exact ⟨c, b, cs, e1, nT h4, nT h5⟩
        · simp at z
          subst z
          obtain ⟨c, b, cs, e1, h4, h5⟩ := hk
          exact ⟨c, b, cs, e1, nT h4, nT h5⟩
  | false =>
    have hd : H d = some (KB X.prog X.w d L) := hK
    obtain ⟨b, rfl, rfl⟩ := hR
    cases r1
    obtain ⟨⟨hsm, kvs, dd, hkL, hkv⟩, _⟩ := I.hok d _ hd
    have elen : kvs.length = L.length := by rw [← hkL, List.length_map]
    have hkey : (leafKind X.prog X.w).is (.num (if b = true then 1 else 0)) (.bool b) = true := by cases b <;> rfl
    have eL : (kvs.map fun p => (p.1.key, p.2)).map (·.1) = L := by rw [← hkL, List.map_map]; rfl
    have VA := val_at (kvs.map fun p => (p.1.key, p.2)) 0 (.num (if b = true then 1 else 0)) fun i p e => by
      rw [List.getElem?_map] at e
      cases q : kvs[i]? with
      | none => rw [q] at e; cases e
      | some x =>
        rw [q] at e
        have e' : (x.1.key, x.2) = p := Option.some.inj e
        subst e'
        obtain ⟨t, e2⟩ := hkv i x q
        exact ⟨t, by rw [e2]; congr 2; omega⟩
    rw [eL] at VA
    have vk := val_key kvs (.num (if b = true then 1 else 0))
    rw [show (Leaf.num (if b = true then 1 else 0)).key = NestedKey.num (if b = true then 1 else 0) from rfl] at vk
    refine call_meetsIn PySem.F.slot_dict_setdefault dd.typeIs PySem.F.entry_dict_setdefault (PySem.F.args_dict_setdefault_3 _ _ _) (kt_meets_setdefault (leafKind X.prog X.w) d hkey hsm _) ⟨kvs, dd, by rw [elen]; exact hz hL, fun v hv => ?_, fun hn h' hm' hs => ?_⟩
    · have hm : NestedKey.num (if b = true then 1 else 0) ∈ L := by
        refine Classical.byContradiction fun c => ?_
        rw [vk, VA.2 c] at hv; cases hv
      obtain ⟨t, e2⟩ := VA.1 hm
      rw [vk, e2] at hv
      rw [← Option.some.inj hv]
      exact ⟨.int _, H, I.tok _, ⟨t, by congr 2; omega⟩, q1 hm⟩
    · have hm : NestedKey.num (if b = true then 1 else 0) ∉ L := fun hm => by
        obtain ⟨t, e2⟩ := VA.1 hm
        rw [vk, e2] at hn; cases hn
      rw [stored_new hn] at hm'
      have he : ∃ q, h'.get? d = some q := let ⟨q, _, _, hq, _⟩ := hm'; ⟨q, hq⟩
      refine ⟨.int (L.length : Int), upd H d (KB X.prog X.w d (L ++ [.num (if b = true then 1 else 0)])), d_write I (by rw [hd]; exact True.intro) hs he (kb_ok hsm hm' (by rw [List.map_append, hkL]; rfl) fun i x e => ?_), ⟨tk, rfl⟩, q2 hm _ (show upd H d _ d = _ from upd_same)⟩
      by_cases hi : i < kvs.length
      · rw [List.getElem?_append_left hi] at e
        exact hkv i x e
      · have hlt := (List.getElem?_eq_some_iff.mp e).1
        rw [List.length_append, List.length_singleton] at hlt
        have hi' : i = kvs.length := by omega
        subst hi'
        rw [List.getElem?_append_right (Nat.le_refl _)] at e
        simp at e
        subst e
        exact ⟨tk, by rw [elen]⟩
def tNM (P : Program) (w : World) (K : PySem.W.Frag) (to : TE) (ta : TA) : TE := fun σ H Q => to σ H fun x H1 => (∃ t d L, x = .ref d ∧ KD P w K t H1 d L) ∧ ta σ H1 fun xs H2 => rSetN P w K x xs H2 Q
/-- known.setdefault(row, n) -/
theorem pe_setN {o e : Expr} {es : List Expr} {to : TE} {t : TA} {apos cpos : Pos} {K : PySem.W.Frag} {P : Program} {w : World} (hu : X.A.units + 64 < cLine) (ho : PE X o to) (ha : PA X (e :: es) t)
    (hbase : attributeBase o "setdefault" X.env (eval o X.env) = eval o X.env := by rfl)
    (hfew : ((backTo cpos (starEach (e :: es) X.env)).all (fun x => !x.1) && (backToKw cpos (keywordEach [] X.env)).all (fun x => x.1.isSome)
      && decide ((e :: es).length + ([] : List Keyword).length + (if ([] : List Keyword).isEmpty then 0 else 1) < 30)) = true := by rfl)
    (hline : (apos.endLine == cpos.line) = true := by rfl) (hs : starEach (e :: es) X.env = (false, eval e X.env) :: starEach es X.env := by rfl) (hplain : (backTo cpos (starEach es X.env)).any (·.1) = false := by rfl) (hK : X.K = K := by rfl) (hP : X.prog = P := by rfl) (hw : X.w = w := by rfl) :
    PE X (.Call (.Attribute o "setdefault" apos) (e :: es) [] cpos) (tNM P w K to t) := by
  subst hK hP hw
  refine ⟨fun pins s σ H Q I h => ?_⟩
  refine wpAny_Call_method_late hbase hfew hline rfl (thn (ho.run pins s σ H _ I h) fun v s1 ⟨x, H1, I1, r1, ty, q1⟩ => ?_)
  obtain ⟨tt, d, L, rfl, hk⟩ := ty
  cases r1
  obtain ⟨ob, hob, hex⟩ := kd_type I1 hk
  refine ⟨"dict", "dict.setdefault", F.plainAttrs_dict, F.slot_dict_setdefault, F.type_dict_setdefault, ⟨ob, hob, hex.1⟩, fun a e => ?_, ?_⟩
  · cases e
    exact ⟨ob, hob, hex.2.1⟩
  have hA := ha.run cpos pins s1 σ H1 _ I1 q1
  rw [hs] at hA ⊢
  refine Calls.callWith_builtin (by show (false || (backTo cpos (starEach es X.env)).any (·.1)) = false; rw [hplain] <;> rfl) (Calls.evalArgs_plain ?_)
  exact thn hA fun us s2 ⟨vs, H2, I2, r2, q2⟩ => mt_setN hu pins s2 σ H2 (V.ref d) vs _ us Q I2 rfl r2 q2
/-- known[row] -/
def tNGet (P : Program) (w : World) (K : PySem.W.Frag) (td ty : TE) : TE := fun σ H Q => td σ H fun x H1 => ty σ H1 fun y H2 => ∃ (t : Bool) (d : Addr) (L : List NestedKey) (k : NestedKey), x = .ref d ∧ KD P w K t H2 d L ∧ RowK K t H2 k y ∧ k ∈ L ∧ Q (.int (L.idxOf k : Int)) H2
theorem pe_nget {o i : Expr} {td ty : TE} {pos : Pos} {K : PySem.W.Frag} {P : Program} {w : World} (hu : X.A.units + 64 < cLine) (ho : PE X o td) (hi : PE X i ty) (hs : NoSl i) (hK : X.K = K := by rfl) (hP : X.prog = P := by rfl) (hw : X.w = w := by rfl) : PE X (.Subscript o i pos) (tNGet P w K td ty) := by
  subst hK hP hw
  refine ⟨fun pins s σ H Q I h => ?_⟩
  refine subD_of (T := "dict") PySem.F.slot_dict_getitem.lookup hs (thn (ho.run pins s σ H _ I h) fun v s1 ⟨x, H1, I1, r1, q1⟩ => thn (hi.run pins s1 σ H1 _ I1 q1) fun u s2 ⟨y, H2, I2, r2, q2⟩ => ?_)
  obtain ⟨t, d, L, k, rfl, hK, hR, hm, q⟩ := q2
  cases r1
  obtain ⟨ob, hob, hex⟩ := kd_type I2 hK
  refine ⟨⟨ob, hob, hex.1⟩, ?_⟩
  cases t with
  | true =>
    obtain ⟨M, hM, hd, hN⟩ := hK
    obtain ⟨a, rfl, hk⟩ := hR
    cases r2
    obtain ⟨⟨hsm, ys, hys, hyM, hyv⟩, _⟩ := I2.hok d _ hd
    have hkeys : ∀ x ∈ ys, NK X.K H2 x.1 x.2.1 := fun x hx => hN (x.1, x.2.1) (by rw [← hyM]; exact List.mem_map.mpr ⟨x, hx, rfl⟩)
    have dd := dn_full I2 hys hkeys
    have eL : (pairsH ys).map (·.1) = L := by rw [← hM, ← hyM]; unfold pairsH; rw [List.map_map, List.map_map]; rfl
    have VA := val_at (pairsH ys) 0 k fun i p e => by
      unfold pairsH at e
      rw [List.getElem?_map] at e
      cases q : ys[i]? with
      | none => rw [q] at e; cases e
      | some x =>
        rw [q] at e
        have e' : (x.1, x.2.2) = p := Option.some.inj e
        subst e'
        obtain ⟨t, e2⟩ := hyv i x q
        exact ⟨t, by rw [e2]; congr 2; omega⟩
    rw [eL] at VA
    obtain ⟨t, e2⟩ := VA.1 hm
    exact getItem_keyed (show X.A.in1.units + 8 < cLine by have : X.A.in1.units = X.A.units + 1 := rfl; omega) (inv_nested I2 hk) ⟨ys, dd, rfl⟩ e2 ⟨.int (L.idxOf k : Int), H2, I2.tok _, ⟨t, by congr 2; omega⟩, q⟩
  | false =>
    have hd : H2 d = some (KB X.prog X.w d L) := hK
    obtain ⟨b, rfl, rfl⟩ := hR
    cases r2
    obtain ⟨⟨hsm, kvs, dd, hkL, hkv⟩, _⟩ := I2.hok d _ hd
    have hkey : (leafKind X.prog X.w).is (.num (if b = true then 1 else 0)) (.bool b) = true := by cases b <;> rfl
    have eL : (kvs.map fun p => (p.1.key, p.2)).map (·.1) = L := by rw [← hkL, List.map_map]; rfl
    have VA := val_at (kvs.map fun p => (p.1.key, p.2)) 0 (.num (if b = true then 1 else 0)) fun i p e => by
      rw [List.getElem?_map] at e
      cases q : kvs[i]? with
      | none => rw [q] at e; cases e
      | some x =>
        rw [q] at e
        have e' : (x.1.key, x.2) = p := Option.some.inj e
        subst e'
        obtain ⟨t, e2⟩ := hkv i x q
        exact ⟨t, by rw [e2]; congr 2; omega⟩
    rw [eL] at VA
    have vk := val_key kvs (.num (if b = true then 1 else 0))
    rw [show (Leaf.num (if b = true then 1 else 0)).key = NestedKey.num (if b = true then 1 else 0) from rfl] at vk
    obtain ⟨t, e2⟩ := VA.1 hm
    rw [← vk] at e2
    exact wpAny_getItem_of hkey dd.mapOf e2 ⟨.int _, H2, I2.tok _, ⟨t, by congr 2; omega⟩, q⟩
/-- len(known) -/
def rLenN (P : Program) (w : World) (K : PySem.W.Frag) : List V → Hp → VK → Prop := fun xs H Q => ∃ (t : Bool) (d : Addr) (L : List NestedKey), xs = [.ref d] ∧ KD P w K t H d L ∧ L.length ≤ 1000 ∧ Q (.int (L.length : Int)) H
theorem lenN_ (P : Program) (w : World) (K : PySem.W.Frag) (hK : X.K = K := by rfl) (hP : X.prog = P := by rfl) (hw : X.w = w := by rfl) : CallR X (.builtin "len") (rLenN P w K) := by
  subst hK hP hw
  intro pins s σ H xs us Q I r h
  obtain ⟨t, d, L, rfl, hK, hL, q⟩ := h
  obtain ⟨u, rfl, rx⟩ := Vals.one r
  cases rx
  cases t with
  | true =>
    obtain ⟨M, hM, hd, hN⟩ := hK
    obtain ⟨⟨hsm, ys, hys, hyM, hyv⟩, _⟩ := I.hok d _ hd
    have hkeys : ∀ x ∈ ys, NK X.K H x.1 x.2.1 := fun x hx => hN (x.1, x.2.1) (by rw [← hyM]; exact List.mem_map.mpr ⟨x, hx, rfl⟩)
    have dd := dn_full I hys hkeys
    have elen : ys.length = L.length := by rw [← hM, ← hyM]; simp
    refine call_len_dictH hsm dd (by rw [elen]; omega) ?_
    exact ⟨.int (L.length : Int), H, I.tok _, ⟨_, by rw [elen]⟩, q⟩
  | false =>
    have hd : H d = some (KB X.prog X.w d L) := hK
    obtain ⟨⟨hsm, kvs, dd, hkL, hkv⟩, _⟩ := I.hok d _ hd
    have elen : kvs.length = L.length := by rw [← hkL, List.length_map]
    refine call_len_dict hsm dd (by rw [elen]; omega) ?_
    exact ⟨.int (L.length : Int), H, I.tok _, ⟨_, by rw [elen]⟩, q⟩
/-- {} -/
def tNewN (P : Program) (w : World) (K : PySem.W.Frag) : TE := fun _ H Q => ∃ t, ∀ d, H d = none → ∀ u, KD P w K t (upd H d u) d [] → Q (.ref d) (upd H d u)
theorem pe_newN (P : Program) (w : World) (K : PySem.W.Frag) {pos : Pos} (hK : X.K = K := by rfl) (hP : X.prog = P := by rfl) (hw : X.w = w := by rfl) : PE X (.Dict [] [] pos) (tNewN P w K) := by
  subst hK hP hw
  refine ⟨fun pins s σ H Q I h => ?_⟩
  obtain ⟨t, h⟩ := h
  have hsm : (s.heap.objs.size == sysModules) = false := beq_eq_false_iff_ne.mpr (Ne.symm (Nat.ne_of_lt I.big))
  have hn : H s.heap.objs.size = none := I.hok.fresh (Nat.le_refl _)
  cases t with
  | true => exact wpAny_Dict_empty ⟨.ref s.heap.objs.size, _, I.laid (a := s.heap.objs.size) (o := KT X.prog X.w s.heap.objs.size []) (t' := s.toks) (fun _ _ q => Heap.get?_push_of_some _ q) (Nat.le_refl _) (kt_ok (xs := []) hsm ⟨_, #[], 0, Heap.get?_push_size _ rfl, ⟨rfl, rfl, rfl⟩, rfl, rfl, List.nodup_nil⟩ rfl fun i x e => by simp at e), rfl, h _ hn _ ⟨[], rfl, upd_same, fun p hp => by simp at hp⟩⟩
  | false => exact wpAny_Dict_empty ⟨.ref s.heap.objs.size, _, I.laid (a := s.heap.objs.size) (o := KB X.prog X.w s.heap.objs.size []) (t' := s.toks) (fun _ _ q => Heap.get?_push_of_some _ q) (Nat.le_refl _) (kb_ok (kvs := []) hsm (Heap.DictOf.new s.heap) rfl fun i x e => by simp at e), rfl, h _ hn _ (show upd H _ _ _ = _ from upd_same)⟩
end
end K29
namespace K29
open PySem PySem.Spec PyProof.Rows L2
section
variable {P : Program} {w : World} {K : PySem.W.Frag} {mg : Str → Option Value} {base : Heap} {f C : Addr} {fd : FuncData}
abbrev N_numbers_of : List Str := ["rows", "known", "found", "row"]
theorem sc_numbers_of : FnScope N_numbers_of ["rows"] (defScope s_numbers_of) := ⟨rfl, rfl, rfl, by decide +kernel, rfl, by decide +kernel, by decide +kernel⟩
def nats (l : List Nat) : List V := l.map fun q : Nat => V.int (q : Int)
def sp_numbers_of (K : PySem.W.Frag) : Sp := fun vs H Q _ => ∃ (t : Bool) (a : Addr) (xs : List V) (ks : List NestedKey), vs = [.ref a] ∧ SqL K H a xs ∧ xs.length = ks.length ∧ (∀ (i : Nat) (k : NestedKey) (v : V), ks[i]? = some k → xs[i]? = some v → RowK K t H k v) ∧ ks.length ≤ 100 ∧
  Gives K H Q (.tuple [rowL (numb ks), .int (cnt ks : Int)])
theorem sq_upd {H : Hp} {d : Addr} {o u : HO} {b : Addr} {xs : List V} (hd : H d = some o) (h1 : ∀ xs, o ≠ .tup xs) (h2 : ∀ ob u, o ≠ .frz ob u) (h : SqT K H b xs) : SqT K (upd H d u) b xs := by
  rcases h with (q | ⟨ob, q⟩) | q
  · exact .inl (.inl (by rw [upd_ne (ne_of q hd (fun e => h1 _ e.symm))]; exact q))
  · exact .inl (.inr ⟨ob, by rw [upd_ne (ne_of q hd (fun e => h2 _ _ e.symm))]; exact q⟩)
  · exact .inr q
theorem kd_ext {t : Bool} {H : Hp} {d : Addr} {L : List NestedKey} (h : KD P w K t H d L) : ∃ φ, H d = some (.ext φ) := by
  unfold KD at h
  cases t with
  | true => obtain ⟨M, _, h, _⟩ := h; exact ⟨_, h⟩
  | false => exact ⟨_, h⟩
theorem rowK_same {t : Bool} {H H' : Hp} {k : NestedKey} {v : V} (h : RowK K t H k v) (hT : ∀ b xs, SqT K H b xs → SqT K H' b xs) : RowK K t H' k v := by
  unfold RowK at h ⊢
  cases t with
  | true =>
    obtain ⟨a, e, c, b, cs, e1, h4, h5⟩ := h
    exact ⟨a, e, c, b, cs, e1, hT _ _ h4, hT _ _ h5⟩
  | false => exact h
theorem dps_nats {H : Hp} (l : List Nat) : DpAll K H (nats l) (l.map fun q : Nat => PyData.int (q : Int)) := by
  induction l with
  | nil => exact .nil
  | cons a l ih => exact .cons (.int _) ih
theorem ok_numbers_of (F : Fun K "numbers_of" "numbers_of" s_numbers_of f fd) (T : Txt K mg C) : FnOk P w K mg base CX0 1 f fd ["rows"] (sp_numbers_of K) := by
  refine F.ok sc_numbers_of (fun vs H Q E h => ?_) (fun cdv A outer s H vs Q E hr h => ?_)
  · obtain ⟨t, a, xs, ks, rfl, _⟩ := h
    rfl
  · obtain ⟨t, a, xs, ks, rfl, hxs, hl, hR, h100, q⟩ := h
    have nd := sc_numbers_of.nd
    have hu := hr.units
    refine ⟨_, (pss_cons (ps_set (i := 1) nd rfl (.inl rfl) (pe_newN P w K))
  (pss_cons (ps_set (i := 2) nd rfl (.inl rfl) (pe_lst pa_nil))
  (pss_cons (ps_for PassesOwn.never rfl (pi_listK (K := K) (pv 0)) (pg_name (i := 3) nd rfl (.inl rfl)) 
    (pss_cons (ps_expr (pe_setN (P := P) (w := w) (K := K) hu (pv 1) (pa_cons (pv 3) (pa_cons (pe_callB (lenN_ P w K) (by rfl) T.len PySem.boot_len (pa_cons (pv 1) pa_nil)) pa_nil))))
    (pss_one (ps_expr (pe_lmK (K := K) PySem.F.slot_list_append PySem.F.type_list_append mt_append (pv 2) (pa_cons (pe_nget (P := P) (w := w) (K := K) hu (pv 1) (pv 3) (fun _ _ => rfl)) pa_nil))))))
  (pss_one (ps_ret (pe_tup (pa_cons (pv 2) (pa_cons (pe_callB (lenN_ P w K) (by rfl) T.len PySem.boot_len (pa_cons (pv 1) pa_nil)) pa_nil)))))))), ?_⟩
    refine ⟨t, fun d hd u hK => ?_⟩
    refine ⟨by decide, fun fo hf => ?_⟩
    have hne : d ≠ fo := fun e => by
      subst e
      obtain ⟨φ, hφ⟩ := kd_ext hK
      rw [hφ] at hf; cases hf
    have s1 : Sm [] H (upd H d u) := Sm.new hd
    have s2 : Sm [] (upd H d u) (upd (upd H d u) fo (.lst [])) := Sm.new hf
    have hf0 : H fo = none := by rw [upd_ne hne.symm] at hf; exact hf
    refine ⟨.ref a, rfl, a, rfl, ⟨xs, (s1.trans s2).lst (by simp) hxs⟩, ?_⟩
    refine for_it (walk_list (K := K) (a := a) (xs := xs)) (fun i σ' H' => ∃ w3, Sm [] H H' ∧ σ' = [some (.ref a), some (.ref d), some (.ref fo), w3] ∧ KD P w K t H' d (dd (ks.take i)) ∧ H' fo = some (.lst (nats (numb (ks.take i)))))
      ⟨none, s1.trans s2, rfl, hK.at' (upd_ne hne) fun b xs q => (s2.tup Wm.nil q), upd_same⟩ (fun i σ' H' _ p => ?_) (fun i x σ' H' H'' hi p y => ?_) fun σ' H' p => ?_
    · obtain ⟨_, s, _⟩ := p
      exact s.lst (by simp) hxs
    · obtain ⟨w3, s, rfl, hKD, hfo⟩ := p
      obtain ⟨rfl, y⟩ := y
      have hik : i < ks.length := by rw [← hl]; exact hi
      obtain ⟨k, hk⟩ : ∃ k, ks[i]? = some k := ⟨_, List.getElem?_eq_getElem hik⟩
      have hrow := (hR i k x hk y).sm s Wm.nil
      have etake : ks.take (i + 1) = ks.take i ++ [k] := by rw [List.take_add_one, hk]; rfl
      have hlen : (dd (ks.take i)).length ≤ i := Nat.le_trans (cnt_le_length _) (by rw [List.length_take]; omega)
      have en := numb_snoc (ks.take i) k
      have ed := dd_snoc (ks.take i) k
      rw [← etake] at en ed
      -- the second statement
      have fin : ∀ H3, Sm [] H H3 → KD P w K t H3 d (dd (ks.take (i + 1))) → H3 fo = some (.lst (nats (numb (ks.take i)))) → RowK K t H3 k x → ∀ N : L2.St → Hp → Prop, (∀ σ2 H4, (∃ w3, Sm [] H H4 ∧ σ2 = [some (.ref a), some (.ref d), some (.ref fo), w3] ∧ KD P w K t H4 d (dd (ks.take (i + 1))) ∧ H4 fo = some (.lst (nats (numb (ks.take (i + 1)))))) → N σ2 H4) →
          (tBM K "list" rAppend (tVar 2) (tCons (tNGet P w K (tVar 1) (tVar 3)) tNil)) [some (.ref a), some (.ref d), some (.ref fo), some x] H3 fun _ H4 => N [some (.ref a), some (.ref d), some (.ref fo), some x] H4 := by
        intro H3 s3 hK3 hf3 hr3 N hN
        have hm : k ∈ dd (ks.take (i + 1)) := mem_dd.mpr (by rw [etake]; simp)
        refine ⟨.ref fo, rfl, .inl ⟨rfl, _, SqL.of hf3⟩, .ref d, rfl, x, rfl, t, d, _, k, rfl, hK3, hr3, hm, ?_⟩
        refine ⟨fo, _, .int ((dd (ks.take (i + 1))).idxOf k : Int), rfl, rfl, hf3, ?_, hN _ _ ⟨some x, s3.mut hf0, rfl, hK3.at' (upd_ne hne) fun b xs q => sq_upd hf3 (by intro _ e; cases e) (by intro _ _ e; cases e) q, ?_⟩⟩
        · refine Nat.lt_of_le_of_lt (m := 1000) ?_ (by decide)
          unfold nats
          rw [List.length_map, numb_len, List.length_take]
          omega
        · rw [upd_same, en, ed]
          unfold nats
          rw [List.map_append]
          rfl
      refine ⟨.ref d, rfl, ⟨t, d, _, rfl, hKD⟩, x, rfl, .ref d, rfl, t, d, _, rfl, hKD, by omega, t, d, _, k, x, rfl, rfl, hKD, hrow, by omega, fun hm => ?_, fun hm u2 hK2 => ?_⟩
      · refine fin H'' s ?_ hfo hrow _ fun σ2 H4 h => h
        rw [ed]
        unfold ddStep
        rw [if_pos hm]
        exact hKD
      · obtain ⟨φ, hφ⟩ := kd_ext hKD
        refine fin (upd H'' d u2) (s.mut hd) ?_ (by rw [upd_ne hne.symm]; exact hfo) (rowK_same hrow fun b xs q => sq_upd hφ (by intro _ e; cases e) (by intro _ _ e; cases e) q) _ fun σ2 H4 h => h
        rw [ed]
        unfold ddStep
        rw [if_neg hm]
        exact hK2
    · obtain ⟨w3, s, rfl, hKD, hfo⟩ := p
      rw [hl, List.take_length] at hKD hfo
      refine ⟨.ref fo, rfl, .ref d, rfl, t, d, _, rfl, hKD, Nat.le_trans (cnt_le_length ks) (by omega), ?_⟩
      refine ⟨(show 2 ≤ sizeLine by decide), fun b hb => q _ _ (s.trans (Sm.new hb)) (.tup (SqT.of upd_same) (.cons (.lst (SqL.of (by rw [upd_ne (ne_of_none hfo hb)]; exact hfo)) (dps_nats _)) (.cons (.int _) .nil)))⟩
end
end K29
namespace K29
open PySem PySem.Spec PyProof.Rows L2

def kB (b : Bool) : NestedKey := .num (if b = true then 1 else 0)
def kT (p : Nat × List Nat) : NestedKey := .tup [.num (p.1 : Int), .tup ((p.2.map fun q : Nat => (q : Int)).map .num)]
def tD (p : Nat × List Nat) : PyData := .tuple [.int (p.1 : Int), rowD p.2]
theorem kB_inj {a b : Bool} (h : kB a = kB b) : a = b := by
  cases a <;> cases b <;> first | rfl | (exfalso; simp [kB] at h)
theorem kT_inj {p q : Nat × List Nat} (h : kT p = kT q) : p = q := by
  obtain ⟨a, l⟩ := p
  obtain ⟨b, r⟩ := q
  simp only [kT, NestedKey.tup.injEq, List.cons.injEq, NestedKey.num.injEq, and_true] at h
  obtain ⟨h1, h2⟩ := h
  have e1 : a = b := by omega
  have e2 : l = r := by
    have h3 : (l.map fun q : Nat => (q : Int)) = r.map fun q : Nat => (q : Int) := List.map_inj_right (f := NestedKey.num) (fun x y e => by injection e) |>.mp h2
    exact List.map_inj_right (f := fun q : Nat => (q : Int)) (fun x y e => by have e : (x : Int) = (y : Int) := e; omega) |>.mp h3
  rw [e1, e2]
section
variable {K : PySem.W.Frag} {m : List Addr} {σ : L2.St} {H H' : Hp} {ta tb te tl td tk tv to : TE} {t : TA} {D : Ends} {d : PyData} {ds : List PyData}
theorem gd_numB {bs : List Bool} (h : Ga K [] t σ H [.list (bs.map .bool)]) (hl : bs.length ≤ 100) : Gd K [] (tCall (sp_numbers_of K) [] E0 t) σ H (.tuple [rowL (numb (bs.map kB)), .int (cnt (bs.map kB) : Int)]) :=
  gd_call h fun vs H1 s1 w1 p Q k => by
    cases p with
    | cons p1 p2 =>
      cases p2
      obtain ⟨a, xs, rfl, h1, h2⟩ := dp_lst p1
      refine ⟨false, a, xs, bs.map kB, rfl, h1, by rw [dps_len h2]; simp, fun i kk v hk hv => ?_, by rw [List.length_map]; exact hl, fun v H2 s2 p2 => k v H2 s2 Wm.nil p2⟩
      rw [List.getElem?_map] at hk
      cases e : bs[i]? with
      | none => rw [e] at hk; cases hk
      | some b =>
        rw [e] at hk
        have hk' : kB b = kk := Option.some.inj hk
        obtain ⟨v', h3, h4⟩ := dps_get h2 (show (bs.map PyData.bool)[i]? = some (.bool b) by rw [List.getElem?_map, e]; rfl)
        rw [hv] at h3
        cases h3
        exact ⟨b, dp_bl h4, hk'.symm⟩
theorem gd_numT {ps : List (Nat × List Nat)} (h : Ga K [] t σ H [.list (ps.map tD)]) (hl : ps.length ≤ 100) : Gd K [] (tCall (sp_numbers_of K) [] E0 t) σ H (.tuple [rowL (numb (ps.map kT)), .int (cnt (ps.map kT) : Int)]) :=
  gd_call h fun vs H1 s1 w1 p Q k => by
    cases p with
    | cons p1 p2 =>
      cases p2
      obtain ⟨a, xs, rfl, h1, h2⟩ := dp_lst p1
      refine ⟨true, a, xs, ps.map kT, rfl, h1, by rw [dps_len h2]; simp, fun i kk v hk hv => ?_, by rw [List.length_map]; exact hl, fun v H2 s2 p2 => k v H2 s2 Wm.nil p2⟩
      rw [List.getElem?_map] at hk
      cases e : ps[i]? with
      | none => rw [e] at hk; cases hk
      | some b =>
        rw [e] at hk
        have hk' : kT b = kk := Option.some.inj hk
        obtain ⟨v', h3, h4⟩ := dps_get h2 (show (ps.map tD)[i]? = some (tD b) by rw [List.getElem?_map, e]; rfl)
        rw [hv] at h3
        cases h3
        obtain ⟨a1, ys, rfl, h5, h6⟩ := dp_tup h4
        cases h6 with
        | cons q1 q2 => cases q2 with
          | cons q2 q3 =>
            cases q3
            cases q1
            obtain ⟨a2, zs, rfl, h7, h8⟩ := dp_tup q2
            have hz := rows_inv h8
            subst hz
            refine ⟨a1, rfl, (b.1 : Int), a2, b.2.map fun q : Nat => (q : Int), hk'.symm, h5, ?_⟩
            rw [List.map_map]
            exact h7
theorem h_asg2 {i j : Nat} {d1 d2 : PyData} (h : Gd K [] te σ H (.tuple [d1, d2])) (k : ∀ v1 v2 H1, Sm [] H H1 → Dp K H1 v1 d1 → Dp K H1 v2 d2 → D.nx ((σ.set i (some v1)).set j (some v2)) H1) : tAsg te (gTup K 2 (gCons (gName i) (gCons (gName j) gNil))) D σ H :=
  rq_asg2 (K := K) (u := fun D => D.nx) (D := D) h k
theorem gd_listRg {n : Nat} (h : Gd K m ta σ H (.int (n : Int))) (hn : n ≤ 1000) : Gd K m (tLstRg (tRg1 ta)) σ H (rowL (List.range n)) := fun H1 s1 w1 Q q =>
  h H1 s1 w1 _ fun v H2 s2 w2 p => by
    cases p
    refine ⟨(n : Int), rfl, RgOk.of_le (by omega) (by omega) (by omega) (by omega), fun b hb => q _ _ (s2.trans (Sm.new hb)) (w2.new hb) (.lst (SqL.of upd_same) ?_)⟩
    have e : rgV 0 (n : Int) = nats (List.range n) := by
      unfold rgV nats
      rw [show ((n : Int) - 0).toNat = n by omega]
      exact List.map_congr_left fun i _ => by rw [Int.zero_add]
    rw [e]
    exact dps_nats _
end
section
variable {P : Program} {w : World} {K : PySem.W.Frag} {mg : Str → Option Value} {base : Heap} {f C : Addr} {fd : FuncData}
abbrev N_classes_of : List Str := ["reader", "states", "classes", "many", "last", "ways", "state", "row"]
theorem sc_classes_of : FnScope N_classes_of ["reader"] (defScope s_classes_of) := ⟨rfl, rfl, rfl, by decide +kernel, rfl, by decide +kernel, by decide +kernel⟩
def sp_classes_of (K : PySem.W.Frag) (C : Addr) : Sp := fun vs H Q _ => ∃ (A : Aut) (r : Addr), vs = [.ref r] ∧ A.Ok ∧ RdAt K C H r A ∧ ∀ f v H', ClsOk A f → Down f → Sm [] H H' → Dp K H' v (rowL f) → Q v H'
theorem src_listN {m : List Addr} {σ : L2.St} {H : Hp} {tl : TE} {l : List Nat} (hm : m = []) (h : Gd K m tl σ H (rowL l)) : Src1 K m (iList K tl) σ H l.length (fun i => .int (l.getD i 0 : Int)) := by
  subst hm
  exact src_of (src_list h) (by rw [List.length_map]) fun i hi => row_getD (by rw [List.length_map] at hi; exact hi)
theorem src_rg {σ : L2.St} {H : Hp} {tl : TE} {n : Nat} (h : Gd K [] tl σ H (rowL (List.range n))) : Src1 K [] (iList K tl) σ H n (fun i => .int (i : Int)) :=
  src_of (src_listN rfl h) (by rw [List.length_range]) fun i hi => by
    rw [List.length_range] at hi
    simp [List.getD_eq_getElem?_getD, hi]
/-- the rows of a reader, its dict walked -/
theorem src_rows {m : List Addr} {σ : L2.St} {H : Hp} {td : TE} {p : Addr} {od : Obj} {kvs : List (Key × V)} {B : Aut} (hd : Gv m td σ H (.ref p)) (hp : H p = some (.frz od (.dK kvs))) (w : Wm m H) (h1 : kvs.map (·.1) = (movesD B).map (·.1)) (h2 : DpAll K H (kvs.map (·.2)) ((movesD B).map (·.2))) :
    Src1 K m (iVals td) σ H B.ls.length (fun i => rowD (B.row (B.ls.getD i 0))) :=
  src_of (src_vals hd hp w h1 h2 (.inr (noL_moves B))) (by unfold movesD; rw [List.length_map]) fun i hi => by
    unfold movesD at hi ⊢
    rw [List.length_map] at hi
    simp [List.getD_eq_getElem?_getD, hi]
theorem src_rows2 {m : List Addr} {σ : L2.St} {H : Hp} {td : TE} {p : Addr} {od : Obj} {kvs : List (Key × V)} {B : Aut} (hd : Gv m td σ H (.ref p)) (hp : H p = some (.frz od (.dK kvs))) (w : Wm m H) (h1 : kvs.map (·.1) = (movesD B).map (·.1)) (h2 : DpAll K H (kvs.map (·.2)) ((movesD B).map (·.2))) :
    Src2 K m (iItems td) σ H B.ls.length (fun i => .str (tx [B.ls.getD i 0])) (fun i => rowD (B.row (B.ls.getD i 0))) :=
  src_of2 (src_items hd hp w h1 h2 (.inr (noL_moves B))) (by unfold movesD; rw [List.length_map]) (fun i hi => by
    unfold movesD at hi ⊢
    rw [List.length_map] at hi
    simp [List.getD_eq_getElem?_getD, hi, kD, ck]) fun i hi => by
    unfold movesD at hi ⊢
    rw [List.length_map] at hi
    simp [List.getD_eq_getElem?_getD, hi]
theorem rng_map {β : Type} (l : List Nat) (g : Nat → β) : (List.range l.length).map (fun i => g (l.getD i 0)) = l.map g := by
  refine List.ext_getElem (by simp) fun i h1 h2 => ?_
  simp at h1 h2
  simp [List.getD_eq_getElem?_getD, h1]
theorem rowL_at {l : List Nat} {i : Nat} (h : i < l.length) : (l.map fun q : Nat => PyData.int (q : Int))[i]? = some (.int (l.getD i 0 : Int)) := by
  rw [List.getElem?_map, List.getElem?_eq_getElem h, getD_of h]; rfl
theorem ok_classes_of (F : Fun K "classes_of" "classes_of" s_classes_of f fd) (T : Txt K mg C) (RL : RdLen P w K mg base C) (Gsays : Ok1 P w K mg base "says" ["reader", "state"] 1 (sp_says K C)) (Gnumbers_of : Ok1 P w K mg base "numbers_of" ["rows"] 1 (sp_numbers_of K)) : FnOk P w K mg base CX0 3 f fd ["reader"] (sp_classes_of K C) := by
  refine F.ok sc_classes_of (fun vs H Q E h => ?_) (fun cdv A outer s H vs Q E hr h => ?_)
  · obtain ⟨A, r, rfl, _⟩ := h
    rfl
  · obtain ⟨B, r, rfl, ok, ⟨d, ty, R⟩, q⟩ := h
    have nd := sc_classes_of.nd
    refine ⟨_, (pss_cons (ps_set (i := 1) nd rfl (.inl rfl) (pe_listRg rfl (by rfl) T.list (prg_1 (by rfl) T.range (pe_callB (lenR_ RL hr) (by rfl) T.len PySem.boot_len (pa_cons (pv 0) pa_nil)))))
  (pss_cons (ps_asg (pe_callP Gnumbers_of hr (by rfl) (pa_cons (pe_lc (own := [("state", 6)]) rfl nd (pi_listK (K := K) (pv 1)) (blkOk_by (N := N_classes_of) (sc := defScope s_classes_of) (by decide +kernel)) (fun _ _ _ _ _ => (pg_name (i := 6) nd rfl (.inl rfl) (hf := .inr rfl))) (fun _ _ _ _ _ => pts_nil) (fun _ _ _ _ _ => (pe_callP Gsays hr (by rfl) (pa_cons (pv 0) (pa_cons (pv 6) pa_nil))))) pa_nil)) (pg_tup rfl (pgs_cons (pg_name (i := 2) nd rfl (.inr rfl)) (pgs_cons (pg_name (i := 3) nd rfl (.inl rfl)) pgs_nil))))
  (pss_cons (ps_set (i := 4) nd rfl (.inl rfl) pe_int)
  (pss_cons (ps_while PassesOwn.never (pt_cmpR op_gt (pv 3) (pv 4) (nomark _)) 
    (pss_cons (ps_set (i := 4) nd rfl (.inl rfl) (pv 3))
    (pss_cons (ps_set (i := 5) nd rfl (.inr rfl) (pe_lc (own := [("state", 6)]) rfl nd (pi_listK (K := K) (pv 1)) (blkOk_by (N := N_classes_of) (sc := defScope s_classes_of) (by decide +kernel)) (fun _ _ _ _ _ => (pg_name (i := 6) nd rfl (.inr rfl) (hf := .inl rfl))) (fun _ _ _ _ _ => pts_nil) (fun _ _ _ _ _ => (pe_callTy (tupOf_ K) (by rfl) T.tuple (by decide +kernel) (pa_cons (pe_lock (pe_lc (own := [("row", 7)]) rfl nd (pi_values (pe_fldK (K := K) (pv 0))) (blkOk_by (N := N_classes_of) (sc := relS _ (defScope s_classes_of)) (by decide +kernel)) (fun _ _ _ _ _ => (pg_name (i := 7) nd rfl (.inl rfl) (hf := .inr rfl))) (fun _ _ _ _ _ => pts_nil) (fun _ _ _ _ _ => (pe_ix (ixL_ K) (pv 2) (pe_ix (ixT_ K) (pv 7) (pv 6) (fun _ _ => rfl)) (fun _ _ => rfl))))) pa_nil)))))
    (pss_one (ps_asg (pe_callP Gnumbers_of hr (by rfl) (pa_cons (pe_lc (own := [("state", 6)]) rfl nd (pi_listK (K := K) (pv 1)) (blkOk_by (N := N_classes_of) (sc := defScope s_classes_of) (by decide +kernel)) (fun _ _ _ _ _ => (pg_name (i := 6) nd rfl (.inl rfl) (hf := .inr rfl))) (fun _ _ _ _ _ => pts_nil) (fun _ _ _ _ _ => (pe_tup (pa_cons (pe_ix (ixL_ K) (pv 2) (pv 6) (fun _ _ => rfl)) (pa_cons (pe_ix (ixL_ K) (pv 5) (pv 6) (fun _ _ => rfl)) pa_nil))))) pa_nil)) (pg_tup rfl (pgs_cons (pg_name (i := 2) nd rfl (.inr rfl)) (pgs_cons (pg_name (i := 3) nd rfl (.inl rfl)) pgs_nil))))))))
  (pss_one (ps_ret (pv 2))))))), ?_⟩
    have h60 := ok.n60
    have hl3 := ok.l3
    have rd : RdAt K C H r B := ⟨d, ty, R⟩
    refine rq_asg (gd_listRg (gd_lenR ok (gv_var rfl) rd) (by omega)) fun vs1 H1 s1 p1 => ?_
    refine rq_asg2 (K := K) (gd_numB (bs := (List.range B.n).map fun i => B.acc i) (ga_cons (Gets.is (gd_lc1 (K := K) (n := B.n) (fun i => .bool (B.acc i)) (src_rg (gd_var rfl Wm.nil p1)) (by omega) fun i x H' hi s w hx => ?_) (by rw [List.map_map]; rfl)) ga_nil) (by rw [List.length_map, List.length_range]; omega)) fun v2 v3 H2 s2 p2 p3 => ?_
    · cases dp_int hx
      refine gd_call (gA_v (gv_var rfl) (gA_v (gv_var rfl) gA_nil)) fun vs H3 s3 w3 p Q k => ?_
      subst p
      exact ⟨B, r, i, rfl, rd.sm0 ((s1.trans s).trans s3), fun v H4 s4 p4 => k v H4 s4 Wm.nil p4⟩
    cases dp_int p3
    refine rq_asg gv_c fun v4 H3 s3 p4 => ?_
    subst p4
    have h0 : RefSt B (numb (((List.range B.n).map fun i => B.acc i).map kB)) 0 := RefSt.init (by rw [numb_len]; simp) fun i j hi hj => by
      rw [numb_eq (x := kB (B.acc i)) (y := kB (B.acc j)) (by simp [hi]) (by simp [hj])]
      exact ⟨kB_inj, fun e => by rw [e]⟩
    refine rq_while (fun k' σ' H' => ∃ (f : List Nat) (last : Nat) (v : V) (w5 : Option V), k' = 100 - last ∧ last ≤ 60 ∧ RefSt B f last ∧ Down f ∧ Sm [] H H' ∧ Sm [] H1 H' ∧ Dp K H' v (rowL f) ∧ σ' = [some (.ref r), some vs1, some v, some (.int (cnt f : Int)), some (.int (last : Int)), w5, none, none])
      100 ⟨_, 0, v2, none, rfl, by omega, h0, numb_down _, (s1.trans s2).trans s3, s2.trans s3, dp_sm0 s3 p2, by rw [numb_cnt]; rfl⟩ fun k' σ' H' hW => ?_
    obtain ⟨f, last, v, w5, rfl, hlast, S, Dn, s4, s5, p5, rfl⟩ := hW
    have hcn := S.cnt_le
    refine ⟨decide (last < cnt f), GetsT.is (gt_test (K := K) (gd_gt (gd_vi (n := (cnt f : Int)) rfl) (gd_vi (n := (last : Int)) rfl))) (by simp only [Int.ofNat_lt]), fun hlt H4 s6 N hN => ?_, fun hge H4 s6 => ?_⟩
    · have hlt := of_decide_eq_true hlt
      refine rq_asg (gv_var rfl) fun v6 H5 s7 e6 => ?_
      subst e6
      have s67 := s6.trans s7
      have hfi : ∀ {i}, i < B.n → i < f.length := fun h => by rw [S.len]; exact h
      refine rq_asg (Gets.is (gd_lc1 (K := K) (n := B.n) (fun i => rowD (B.ls.map fun c => f.getD (B.mv c i) 0)) (src_rg (gd_var rfl Wm.nil (dp_sm0 (s5.trans s67) p1))) (by omega) (fun i x H' hi s w hx => ?_) (hno := fun i _ => noL_row _)) rfl) fun vw H6 s8 pw => ?_
      · cases dp_int hx
        obtain ⟨⟨dx, hr1⟩, ⟨kvs, hd1, hd2, hd3⟩, hy1⟩ := R.sm0 ((s4.trans s67).trans s)
        have p6 := dp_sm0 (s67.trans s) p5
        refine Gets.is (gd_tupleOf (ds := (B.ls.map fun c => f.getD (B.mv c i) 0).map fun q : Nat => PyData.int (q : Int)) (ga_cons (gets_lock hd1 w fun od H7 s9 w9 hp7 => ?_) ga_nil)) rfl
        have hr7 : (upd H7 d (.frz od (.dK kvs))) r = some (.ins C dx (rdF B.ls d ty)) := by rw [upd_ne (ne_of (s9 _ _ (by simp) hr1) hp7 (by intro e; cases e))]; exact s9 _ _ (by simp) hr1
        have p7 := dp_lock (od := od) hp7 (dp_sm0 s9 p6)
        refine Gets.imp (Gets.is (gd_lc1 (K := K) (n := B.ls.length) (fun j => .int (f.getD (B.mv (B.ls.getD j 0) i) 0 : Int)) (src_rows (gv_fldm' (gv_var rfl) hr7 Wm.nil T) upd_same Wm.nil hd2 (dps_lock hp7 (dps_sm s9 Wm.nil (.inl rfl) hd3))) (by omega) fun j x' H8 hj s10 w10 hx' => ?_) ?_) fun v H8 s10 w10 p8 e8 => dp_unlock e8 p8
        · refine gd_ixL (n := B.mv (B.ls.getD j 0) i) (gd_var rfl Wm.nil (dp_sm0 s10 p7)) (gd_ixT (n := i) (gd_var rfl Wm.nil hx') (gd_vi rfl) (rowD_get (row_get ok (ls_getD hj) hi))) (rowL_at (hfi (mv_lt ok (ls_getD hj) hi)))
        · rw [List.map_map]
          exact congrArg PyData.list (rng_map B.ls fun c => PyData.int (f.getD (B.mv c i) 0 : Int))
      · have p6 := dp_sm0 (s67.trans s8) p5
        have s46 := (s4.trans s67).trans s8
        let g : Nat → Nat × List Nat := fun i => (f.getD i 0, B.ls.map fun c => f.getD (B.mv c i) 0)
        refine h_asg2 (K := K) (gd_numT (ps := (List.range B.n).map g) (ga_cons (Gets.is (gd_lc1 (K := K) (n := B.n) (fun i => tD (g i)) (src_rg (gd_var rfl Wm.nil (dp_sm0 ((s5.trans s67).trans s8) p1))) (by omega) (fun i x H' hi s w hx => ?_) (hno := fun i _ => by show noL (.tuple [_, _]) = true; simp [noL, noLs, noL_row])) (by rw [List.map_map]; rfl)) ga_nil) (by rw [List.length_map, List.length_range]; omega)) fun v7 v8 H7 s9 p7 p8 => ?_
        · cases dp_int hx
          refine gd_tup (ga_cons (gd_ixL (n := i) (gd_var rfl Wm.nil (dp_sm0 s p6)) (gd_vi rfl) (rowL_at (hfi hi))) (ga_cons (gd_ixL (n := i) (gd_var rfl Wm.nil (dp_sm0 s pw)) (gd_vi rfl) (by rw [List.getElem?_map, List.getElem?_range hi]; rfl)) ga_nil)) (show 2 ≤ 100000 by omega)
        · cases dp_int p8
          have hlen : (numb (((List.range B.n).map g).map kT)).length = B.n := by rw [numb_len]; simp
          refine hN (100 - cnt f) _ _ (by omega) ⟨numb (((List.range B.n).map g).map kT), cnt f, v7, some vw, rfl, by omega, S.next ok hlen fun i j hi hj => ?_, numb_down _, s46.trans s9, ((s5.trans s67).trans s8).trans s9, p7, by rw [numb_cnt]; rfl⟩
          rw [numb_eq (x := kT (g i)) (y := kT (g j)) (by simp [hi]) (by simp [hj])]
          refine ⟨fun e => ?_, fun e => ?_⟩
          · have e2 := kT_inj e
            have e3 := congrArg Prod.fst e2
            have e4 := congrArg Prod.snd e2
            exact ⟨e3, fun c hc => List.map_inj_left.mp e4 c hc⟩
          · congr 1
            exact Prod.ext e.1 (List.map_congr_left fun c hc => e.2 c hc)
    · have hge := of_decide_eq_false hge
      refine r_ret (gd_var rfl Wm.nil (dp_sm0 s6 p5)) fun v' H5 s7 p7 => q f v' H5 (S.done ok (by omega)) Dn ((s4.trans s6).trans s7) p7
end
end K29
namespace K29
open PySem PySem.Spec PyProof.Rows L2

theorem sm_unlock {Hb H' : Hp} {d : Addr} {od : Obj} {u : HO} (s : Sm [] (upd Hb d (.frz od u)) H') (hd : Hb d = some u) : Sm [] Hb (upd H' d u) := fun b o _ ho => by
  by_cases e : b = d
  · subst e
    rw [hd] at ho
    cases ho
    exact upd_same
  · rw [upd_ne e]
    exact s b o (by simp) (by rw [upd_ne e]; exact ho)
theorem sm_lock {Hb H : Hp} {d : Addr} {o : HO} (s : Sm [] Hb H) : Sm [] (upd Hb d o) (upd H d o) := fun b ob hb ho => by
  by_cases e : b = d
  · subst e
    rw [upd_same] at ho ⊢
    exact ho
  · rw [upd_ne e] at ho ⊢
    exact s b ob hb ho
/-- the loop over the rows of a reader; what is made meanwhile may change -/
theorem rq_forItems {K : PySem.W.Frag} {td : TE} {σ : L2.St} {Hb H : Hp} {d : Addr} {kvs : List (Key × V)} {B : Aut} {j j' : Nat} {tb u : TS} {D : Ends} (sb : Sm [] Hb H) (hd1 : Hb d = some (.dK kvs)) (h1 : kvs.map (·.1) = (movesD B).map (·.1)) (h2 : DpAll K Hb (kvs.map (·.2)) ((movesD B).map (·.2)))
    (hsrc : ∀ od, Gv [] td σ (upd Hb d (.frz od (.dK kvs))) (.ref d)) (Pv : Nat → L2.St → Hp → Prop) (h0 : ∀ od H1, Sm [] (upd H d (.frz od (.dK kvs))) H1 → Pv 0 σ H1) (hst : ∀ i σ' H' T o, Pv i σ' H' → H' T = none → Pv i σ' (upd H' T o))
    (hs : ∀ od i y σ' H' (N : L2.St → Hp → Prop), i < B.ls.length → Sm [] (upd Hb d (.frz od (.dK kvs))) H' → Pv i σ' H' → Dp K H' y (rowD (B.row (B.ls.getD i 0))) → (∀ σ2 H2, Sm [] (upd Hb d (.frz od (.dK kvs))) H2 → Pv (i + 1) σ2 H2 → N σ2 H2) →
      ∀ bk, tb { nx := N, rt := fun v H1 => H1 d = some (.frz od (.dK kvs)) ∧ D.rt v (upd H1 d (.dK kvs)), bk := bk, ct := N } ((σ'.set j (some (.str (tx [B.ls.getD i 0])))).set j' (some y)) H')
    (hd : ∀ od σ' H', Sm [] (upd Hb d (.frz od (.dK kvs))) H' → Pv B.ls.length σ' H' → u D σ' (upd H' d (.dK kvs))) :
    tSeq (tLock (tFor (iItems td) (gTup K 2 (gCons (gName j) (gCons (gName j') gNil))) tb)) u D σ H := by
  refine ⟨d, .dK kvs, sb _ _ (by simp) hd1, True.intro, fun od => ?_⟩
  have el : kvs.length = B.ls.length := by have := congrArg List.length h1; unfold movesD at this; simpa using this
  refine hsrc od (upd H d (.frz od (.dK kvs))) (sm_lock sb) Wm.nil _ fun v H2 s2 w2 pv => ?_
  subst pv
  have sb2 := (sm_lock (d := d) (o := .frz od (.dK kvs)) sb).trans s2
  refine ⟨d, od, kvs, rfl, sb2 _ _ (by simp) upd_same, ?_⟩
  refine for_it walk_items (fun i σ' H' => Sm [] (upd Hb d (.frz od (.dK kvs))) H' ∧ Pv i σ' H') ⟨sb2, h0 od H2 s2⟩ (fun i σ' H' _ p => p.1 _ _ (by simp) upd_same) (fun i v σ' H' H'' hi p y => ?_) fun σ' H' p => ?_
  · obtain ⟨T, x, y, rfl, e2, rfl, e4, e5⟩ := y
    obtain ⟨k, vv, hk'⟩ : ∃ k vv, kvs[i]? = some (k, vv) := ⟨_, _, List.getElem?_eq_getElem hi⟩
    have e4' : (kvs[i]?.map fun kv => kV kv.1) = some x := e4
    have e5' : kvs[i]?.map Prod.snd = some y := e5
    rw [hk'] at e4' e5'
    have hx : kV k = x := Option.some.inj e4'
    have hy : vv = y := Option.some.inj e5'
    subst hx; subst hy
    rw [el] at hi
    have hkk : k = ck (B.ls.getD i 0) := by
      have e : (kvs.map (·.1))[i]? = some k := by rw [List.getElem?_map, hk']; rfl
      rw [h1] at e
      unfold movesD at e
      rw [List.map_map, List.getElem?_map, List.getElem?_eq_getElem hi] at e
      rw [getD_of hi]
      exact (Option.some.inj e).symm
    subst hkk
    have hvv : Dp K H' vv (rowD (B.row (B.ls.getD i 0))) := by
      have e6 : (kvs.map (·.2))[i]? = some vv := by rw [List.getElem?_map, hk']; rfl
      obtain ⟨v2, h3, h4⟩ := dps_get (dps_sm p.1 Wm.nil (.inl rfl) (dps_lock hd1 h2)) (show ((movesD B).map (·.2))[i]? = some (rowD (B.row (B.ls.getD i 0))) by
        unfold movesD
        rw [List.map_map, List.getElem?_map, List.getElem?_eq_getElem hi, getD_of hi]; rfl)
      rw [e6] at h3
      cases h3
      exact h4
    refine ⟨T, _, rfl, SqT.of upd_same, rfl, _, _, rfl, _, _, rfl, rfl, ?_⟩
    exact hs od i vv σ' _ _ hi (p.1.trans (Sm.new e2)) (hst _ _ _ _ _ p.2 e2) (dp_sm0 (Sm.new e2) hvv) (fun σ2 H3 s3 q => ⟨s3, q⟩) _
  · rw [el] at p
    exact ⟨p.1 _ _ (by simp) upd_same, hd od σ' H' p.1 p.2⟩
section
variable {K : PySem.W.Frag} {m : List Addr} {σ : L2.St} {H H' : Hp} {ta tb te tl td tk tv to : TE} {t : TA} {D : Ends} {d : PyData} {ds : List PyData} {C : Addr} {A : Aut}
theorem gets_from {s : Nat} (ok : A.Ok) (hs : s < A.n) (h : Gets [] ta σ H (IsRd K C A)) (hb : Gd K [] tb σ H (.int (s : Int))) : Gets [] (tCall (sp_reader_from K C) [] E0 (tCons ta (tCons tb tNil))) σ H (IsRd K C (rf A s)) := fun H1 s1 w1 Q k =>
  h H1 s1 w1 _ fun v H2 s2 w2 p => hb H2 (s1.trans s2) w2 _ fun v2 H3 s3 w3 p3 => by
    obtain ⟨r, rfl, R⟩ := p
    cases dp_int p3
    exact ⟨A, r, s, rfl, ok, R.sm0 s3, hs, fun r' H4 s4 R4 => k _ H4 ((s2.trans s3).trans s4) Wm.nil ⟨r', rfl, R4⟩⟩
theorem gets_rd {r : Addr} (h : Gv [] ta σ H (.ref r)) (R : RdAt K C H r A) : Gets [] ta σ H (IsRd K C A) := h.imp fun v H1 s w e => ⟨r, e, R.sm0 s⟩
end
theorem max_of : ∀ (f : List Nat), f ≠ [] → ∃ m, m ∈ f ∧ ∀ y ∈ f, y ≤ m
  | [], h => absurd rfl h
  | [a], _ => ⟨a, by simp, by simp⟩
  | a :: b :: r, _ => by
    obtain ⟨m, h1, h2⟩ := max_of (b :: r) (by simp)
    by_cases h : a ≤ m
    · exact ⟨m, List.mem_cons_of_mem _ h1, fun y hy => by rcases List.mem_cons.mp hy with rfl | hy; exact h; exact h2 y hy⟩
    · exact ⟨a, by simp, fun y hy => by rcases List.mem_cons.mp hy with rfl | hy; exact Nat.le_refl _; have := h2 y hy; omega⟩
theorem quot_movesD (R : Aut) (f F : List Nat) : movesD (quot R f F) = R.ls.map fun c => (ck c, rowD (F.map fun q => f.getD (R.mv c q) 0)) := by
  unfold movesD
  refine List.map_congr_left fun c hc => ?_
  have : (quot R f F).row c = F.map fun q => f.getD (R.mv c q) 0 := by
    unfold Aut.row quot
    simp only
    rw [lookup_zip_map _ (show c ∈ R.ls from hc)]
    rfl
  rw [this]
section
variable {P : Program} {w : World} {K : PySem.W.Frag} {mg : Str → Option Value} {base : Heap} {f C : Addr} {fd : FuncData}
abbrev N_least_of : List Str := ["reader", "reached", "classes", "firsts", "moves", "letter", "row", "yes", "number", "state"]
theorem sc_least_of : FnScope N_least_of ["reader"] (defScope s_least_of) := ⟨rfl, rfl, rfl, by decide +kernel, rfl, by decide +kernel, by decide +kernel⟩
def GivesL (K : PySem.W.Frag) (C : Addr) (H : Hp) (Q : VK) (A : Aut) : Prop := ∀ B T r H', LeastOf A B T → Sm [] H H' → RdAt K C H' r B → Q (.ref r) H'
def sp_least_of (K : PySem.W.Frag) (C : Addr) : Sp := fun vs H Q _ => ∃ (A : Aut) (r : Addr), vs = [.ref r] ∧ A.Ok ∧ RdAt K C H r A ∧ GivesL K C H Q A
theorem ok_least_of (F : Fun K "least_of" "least_of" s_least_of f fd) (T : Txt K mg C) (RM : RdMk P w K mg base C) (Gsays : Ok1 P w K mg base "says" ["reader", "state"] 1 (sp_says K C)) (Greader_from : Ok1 P w K mg base "reader_from" ["reader", "start"] 7 (sp_reader_from K C)) (Gclasses_of : Ok1 P w K mg base "classes_of" ["reader"] 3 (sp_classes_of K C)) : FnOk P w K mg base CX0 8 f fd ["reader"] (sp_least_of K C) := by
  refine F.ok sc_least_of (fun vs H Q E h => ?_) (fun cdv A outer s H vs Q E hr h => ?_)
  · obtain ⟨A, r, rfl, _⟩ := h
    rfl
  · obtain ⟨B, r, rfl, ok, R, q⟩ := h
    have nd := sc_least_of.nd
    have hu := hu_of hr
    refine ⟨_, (pss_cons (ps_set (i := 1) nd rfl (.inr rfl) (pe_callP Greader_from hr (by rfl) (pa_cons (pv 0) (pa_cons pe_int pa_nil))))
  (pss_cons (ps_set (i := 2) nd rfl (.inr rfl) (pe_callP Gclasses_of hr (by rfl) (pa_cons (pv 1) pa_nil)))
  (pss_cons (ps_setLc (i := 3) (own := [("number", 8)]) rfl nd rfl rfl (sw_true rfl rfl rfl (by decide +kernel)) (pi_range1 (by rfl) T.range (pa_cons (pe_op op_add (pe_callB (max_ K) (by rfl) T.max (by decide +kernel) (pa_cons (pv 2) pa_nil)) pe_int) pa_nil)) (blkOk_by (N := N_least_of) (sc := defScope s_least_of) (by decide +kernel)) (fun _ _ _ _ _ => (pg_name (i := 8) nd rfl (.inl rfl) (hf := .inr rfl))) (fun _ _ _ _ _ => pts_nil) (fun _ _ _ _ _ => (pe_lmK (K := K) PySem.F.slot_list_index PySem.F.type_list_index (mtIdx_ K) (pv 2) (pa_cons (pv 8) pa_nil))))
  (pss_cons (ps_set (i := 4) nd rfl (.inl rfl) pe_dnewK)
  (pss_cons (ps_lock (ps_for PassesOwn.never rfl (pi_items (pe_fldK (K := K) (pv 1))) (pg_tup rfl (pgs_cons (pg_name (i := 5) nd rfl (.inl rfl)) (pgs_cons (pg_name (i := 6) nd rfl (.inr rfl)) pgs_nil))) 
    (pss_one (ps_dput hu (pv 4) (pv 5) (pe_callTy (tupOf_ K) (by rfl) T.tuple (by decide +kernel) (pa_cons (pe_lc (own := [("state", 9)]) rfl nd (pi_listK (K := K) (pv 3)) (blkOk_by (N := N_least_of) (sc := defScope s_least_of) (by decide +kernel)) (fun _ _ _ _ _ => (pg_name (i := 9) nd rfl (.inl rfl) (hf := .inr rfl))) (fun _ _ _ _ _ => pts_nil) (fun _ _ _ _ _ => (pe_ix (ixL_ K) (pv 2) (pe_ix (ixT_ K) (pv 6) (pv 9) (fun _ _ => rfl)) (fun _ _ => rfl)))) pa_nil)) rfl))))
  (pss_cons (ps_setLc (i := 7) (own := [("number", 8), ("state", 9)]) rfl nd rfl rfl (sw_true rfl rfl rfl (by decide +kernel)) (pi_enumK (K := K) (by rfl) T.enumerate (pa_cons (pv 3) pa_nil)) (blkOk_by (N := N_least_of) (sc := defScope s_least_of) (by decide +kernel)) (fun _ _ _ _ _ => (pg_tupK (K := K) (n := 2) rfl (pgs_cons (pg_name (i := 8) nd rfl (.inl rfl) (hf := .inr rfl)) (pgs_cons (pg_name (i := 9) nd rfl (.inl rfl) (hf := .inr rfl)) pgs_nil)))) (fun _ _ _ _ _ => (pts_one (pt_val (pe_callP Gsays hr (by rfl) (pa_cons (pv 1) (pa_cons (pv 9) pa_nil)))))) (fun _ _ _ _ _ => (pv 8)))
  (pss_one (ps_ret (pe_callP Greader_from hr (by rfl) (pa_cons (pe_mkR RM hr (pa_cons (pe_fldK (K := K) (pv 0)) (pa_cons (pv 4) (pa_cons (pe_callTy (tupOf_ K) (by rfl) T.tuple (by decide +kernel) (pa_cons (pv 7) pa_nil)) pa_nil)))) (pa_cons (pe_ix (ixL_ K) (pv 2) pe_int (fun _ _ => rfl)) pa_nil))))))))))), ?_⟩
    have okR := rf_ok ok (s := 0) ok.n1
    have h60 := okR.n60
    have hl3 := okR.l3
    have hn1 := okR.n1
    refine rq_asg (gets_from ok ok.n1 (gets_rd (gv_var rfl) R) gd_i) fun v1 H1 s1 p1 => ?_
    obtain ⟨r1, rfl, R1⟩ := p1
    have R10 := R.sm0 s1
    have hll : B.ls = (rf B 0).ls := rfl
    refine rq_asg (P := fun v H' => ∃ f, ClsOk (rf B 0) f ∧ Down f ∧ Dp K H' v (rowL f)) (gd_call (gA_v (gv_var rfl) gA_nil) fun vs H2 s2 w2 p Q k => ?_) fun v2 H2 s2 p2 => ?_
    · subst p
      exact ⟨_, r1, rfl, okR, R1.sm0 s2, fun f v H' c1 c2 s3 p3 => k v H' s3 Wm.nil ⟨f, c1, c2, p3⟩⟩
    obtain ⟨g, Cl, Dn, p2⟩ := p2
    have hgl : g.length = (rf B 0).n := Cl.len
    obtain ⟨mx, hm1, hm2⟩ := max_of g (fun e => by rw [e] at hgl; simp at hgl; omega)
    have FS := firsts_of okR Cl Dn hm1 hm2
    have hFl := FS.len okR
    have LE := least_of_ok ok Cl FS
    have okQ := quot_ok okR Cl FS
    have hqn := quot_n (f := g) (F := (List.range (mx + 1)).map fun k => g.idxOf k) okR
    have hqm := quot_movesD (rf B 0) g ((List.range (mx + 1)).map fun k => g.idxOf k)
    have hqy : (quot (rf B 0) g ((List.range (mx + 1)).map fun k => g.idxOf k)).yes = (List.range ((List.range (mx + 1)).map fun k => g.idxOf k).length).filter fun k => (rf B 0).acc (((List.range (mx + 1)).map fun k => g.idxOf k).getD k 0) := rfl
    have hmx : mx ≤ 60 := by
      rw [List.length_map, List.length_range] at hFl
      omega
    refine rq_asg (Gets.is (gd_lc1 (K := K) (n := mx + 1) (fun k => .int (g.idxOf k : Int)) (src_range1 (n := mx + 1) (ga_cons (K := K) (Gets.is (gd_add (gd_max (ns := g.map fun q : Nat => (q : Int)) (k := (mx : Int)) (ga_cons (K := K) (Gets.is (gd_var rfl Wm.nil p2) (by unfold rowL; rw [List.map_map]; rfl)) ga_nil) (List.mem_map.mpr ⟨mx, hm1, rfl⟩) (fun y hy => by
        obtain ⟨z, hz, rfl⟩ := List.mem_map.mp hy
        have := hm2 z hz
        omega)) gd_i) rfl) ga_nil) (by omega)) (by omega) fun i x H' hi s w hx => ?_) (show _ = rowL ((List.range (mx + 1)).map fun k => g.idxOf k) by unfold rowL; rw [List.map_map]; rfl)) fun v3 H3 s3 p3 => ?_
    · cases dp_int hx
      exact gd_idx (gd_var rfl Wm.nil (dp_sm0 s p2)) (ga_cons (gd_vi rfl) ga_nil) (Dn mx hm1 i (by omega))
    have hFi : ∀ {i}, i < ((List.range (mx + 1)).map fun k => g.idxOf k).length → ((List.range (mx + 1)).map fun k => g.idxOf k).getD i 0 < (rf B 0).n := fun {i} hi => (FS.at_ i _ (getD_at hi)).1
    have hFn : ((List.range (mx + 1)).map fun k => g.idxOf k).length ≤ 60 := by omega
    generalize hF : ((List.range (mx + 1)).map fun k => g.idxOf k) = F at *
    have R13 := R1.sm0 (s2.trans s3)
    have R03 := R10.sm0 (s2.trans s3)
    have p23 := dp_sm0 s3 p2
    have s03 := (s1.trans s2).trans s3
    refine fun pd hpd => ?_
    obtain ⟨d1, ty1, ⟨dx1, hr1⟩, ⟨kvs, hd1, hd2, hd3⟩, hy1⟩ := id R13
    have hdr : d1 ≠ r1 := fun e => by
      subst e
      rw [hr1] at hd1; cases hd1
    refine rq_forItems (B := rf B 0) (Sm.new hpd) hd1 hd2 hd3 (fun od => gv_fldm' (gv_var rfl) (show (upd H3 d1 (.frz od (.dK kvs))) r1 = some (.ins C dx1 (rdF (rf B 0).ls d1 ty1)) by rw [upd_ne hdr.symm]; exact hr1) Wm.nil T)
      (fun i σ' H' => ∃ (w5 w6 : Option V) (es : List (Key × V)), σ' = [some (.ref r), some (.ref r1), some v2, some v3, some (.ref pd), w5, w6, none, none, none] ∧ H' pd = some (.dK es) ∧ es.map (·.1) = (((rf B 0).ls.take i).map fun c => (ck c, rowD (F.map fun q => g.getD ((rf B 0).mv c q) 0))).map (·.1) ∧ DpAll K H' (es.map (·.2)) ((((rf B 0).ls.take i).map fun c => (ck c, rowD (F.map fun q => g.getD ((rf B 0).mv c q) 0))).map (·.2)))
      (fun od H4 s4 => ⟨none, none, [], rfl, s4 _ _ (by simp) (by rw [upd_ne (fun e => by subst e; rw [hpd] at hd1; cases hd1)]; exact upd_same), rfl, .nil⟩) (fun i σ' H' T' o h hT' => ?_) (fun od i y σ' H' N hi s4 hP hy hN bk => ?_) fun od σ' H' s4 hP => ?_
    · obtain ⟨w5, w6, es, e1, e2, e3, e4⟩ := h
      exact ⟨w5, w6, es, e1, by rw [upd_ne (ne_of_none e2 hT')]; exact e2, e3, dps_sm (Sm.new (m := []) hT') Wm.nil (.inl rfl) e4⟩
    · obtain ⟨w5, w6, es, rfl, e2, e3, e4⟩ := hP
      have p25 := dp_sm0 s4 (dp_lock (od := od) hd1 p23)
      have p35 := dp_sm0 s4 (dp_lock (od := od) hd1 p3)
      refine Gets.go (K29.gd_tupleOf (K := K) (ds := (F.map fun q => g.getD ((rf B 0).mv ((rf B 0).ls.getD i 0) q) 0).map fun q : Nat => PyData.int (q : Int)) (ga_cons (K := K) (Gets.is (gd_lc1 (K := K) (n := F.length) (fun j => .int (g.getD ((rf B 0).mv ((rf B 0).ls.getD i 0) (F.getD j 0)) 0 : Int)) (src_listN rfl (gd_var rfl Wm.nil p35)) (by omega) fun j x' H6 hj s6 w6 hx' => ?_) ?_) ga_nil)) fun vr H6 s6 pr => ?_
      · cases dp_int hx'
        exact gd_ixL (n := (rf B 0).mv ((rf B 0).ls.getD i 0) (F.getD j 0)) (gd_var rfl Wm.nil (dp_sm0 s6 p25)) (gd_ixT (n := F.getD j 0) (gd_var rfl Wm.nil (dp_sm0 s6 hy)) (gd_vi rfl) (rowD_get (row_get okR (ls_getD hi) (hFi hj)))) (rowL_at (by rw [hgl]; exact mv_lt okR (ls_getD hi) (hFi hj)))
      · rw [List.map_map]
        exact congrArg PyData.list (rng_map F fun q => PyData.int (g.getD ((rf B 0).mv ((rf B 0).ls.getD i 0) q) 0 : Int))
      · have e6 : H6 pd = some (.dK es) := s6 _ _ (by simp) e2
        have hz : es.length = ((rf B 0).ls.take i).length := by have := congrArg List.length e3; simpa using this
        have hpl : (upd H3 d1 (.frz od (.dK kvs))) pd = none := by rw [upd_ne (fun e => by subst e; rw [hpd] at hd1; cases hd1)]; exact hpd
        have hnk : ck ((rf B 0).ls.getD i 0) ∉ ((((rf B 0).ls.take i).map fun c => (ck c, rowD (F.map fun q => g.getD ((rf B 0).mv c q) 0))).map (·.1)) := fun hm => by
          rw [List.map_map] at hm
          obtain ⟨c, hc, e⟩ := List.mem_map.mp hm
          have e' : c = (rf B 0).ls.getD i 0 := ck_inj e
          rw [getD_of hi] at e'
          obtain ⟨k, hk1, hk2⟩ := List.getElem_of_mem hc
          rw [List.length_take] at hk1
          rw [List.getElem_take] at hk2
          have hnd : (rf B 0).ls.Nodup := okR.asc.imp fun {a b} h => Nat.ne_of_lt h
          have := (List.getElem_inj hnd).mp (hk2.trans e')
          omega
        obtain ⟨g1, g2⟩ := dict_grow e3 (dps_sm s6 Wm.nil (.inl rfl) e4) hnk pr
        have etk : (rf B 0).ls.take (i + 1) = (rf B 0).ls.take i ++ [(rf B 0).ls.getD i 0] := by rw [List.take_add_one, List.getElem?_eq_getElem hi, getD_of hi]; rfl
        refine ⟨.ref pd, rfl, .str (tx [(rf B 0).ls.getD i 0]), rfl, pd, _, rfl, DPut.k (k := ck ((rf B 0).ls.getD i 0)) e6 (Nat.lt_of_le_of_lt (m := 3) (by rw [hz, List.length_take]; omega) (by decide)), hN _ _ ((s4.trans s6).mut hpl) ⟨_, _, _, rfl, upd_same, ?_, ?_⟩⟩
        · rw [g1, etk, List.map_append (l₁ := (rf B 0).ls.take i)]; rfl
        · rw [etk, List.map_append (l₁ := (rf B 0).ls.take i)]
          exact dps_updK (noLs_iff.mpr fun d hd => by
            obtain ⟨p, hp, rfl⟩ := List.mem_map.mp hd
            rcases List.mem_append.mp hp with hp | hp
            · obtain ⟨c, _, rfl⟩ := List.mem_map.mp hp
              exact noL_row _
            · obtain ⟨c, _, rfl⟩ := List.mem_map.mp hp
              exact noL_row _) e6 g2
    · obtain ⟨w5, w6, es, rfl, e2, e3, e4⟩ := hP
      rw [List.take_length] at e3 e4
      have hfz : H' d1 = some (.frz od (.dK kvs)) := s4 _ _ (by simp) upd_same
      have hne : pd ≠ d1 := fun e => by subst e; rw [hpd] at hd1; cases hd1
      have s5 := sm_unlock s4 hd1
      have hD : DictAt K (upd H' d1 (.dK kvs)) pd (movesD (quot (rf B 0) g F)) := by
        rw [hqm]
        exact ⟨es, by rw [upd_ne hne]; exact e2, e3, dps_unlock hfz e4⟩
      have R15 := R13.sm0 s5
      have R05 := R03.sm0 s5
      have p35 := dp_sm0 s5 p3
      have p25 := dp_sm0 s5 p23
      obtain ⟨d0, ty0, R05⟩ := R05
      generalize upd H' d1 (.dK kvs) = H5 at *
      refine rq_asg (gd_lcF2 (K := K) (n := F.length) (fun i => (rf B 0).acc (F.getD i 0)) (fun i => .int (i : Int)) (src_of2 (F' := fun i => .int (F.getD i 0 : Int)) (src_enum (ga_cons (K := K) (gd_var rfl Wm.nil p35) ga_nil)) (by rw [List.length_map]) (fun _ _ => rfl) fun i hi => row_getD (by rw [List.length_map] at hi; exact hi)) (by omega) (fun i x y H7 hi s w hx hy => ?_) (fun i x y H7 hi hf s w hx hy => gd_var rfl w hx)) fun vy H6 s6 py => ?_
      · cases dp_int hy
        refine gt_B (K := K) (gd_call (gA_v (gv_var rfl) (gA_v (gv_var rfl) gA_nil)) fun vs H8 s8 w8 p Q k => ?_)
        subst p
        exact ⟨rf B 0, r1, F.getD i 0, rfl, R15.sm0 (s.trans s8), fun v H9 s9 p9 => k v H9 s9 Wm.nil p9⟩
      · have R06 := R05.sm0 s6
        have p26 := dp_sm0 s6 p25
        refine r_ret (gets_from okQ (by rw [hqn]; exact FS.lt 0 hn1) (gets_make (A := quot (rf B 0) g F) okQ (GetsA.imp (gA_cons (gv_str (gd_fld_l (gv_var rfl) R06 Wm.nil T)) (fun _ _ _ _ _ p => p) (gA_cons (gv_var rfl) (fun _ _ _ _ _ p => p) (gA_cons (P := fun v H1 => Dp K H1 v (rowD (quot (rf B 0) g F).yes)) (Gets.is (gd_tupleOf (ga_cons (K := K) (gd_var rfl Wm.nil py) ga_nil)) ?_) (fun _ _ _ s w p => dp_sm0 s p) gA_nil))) fun vs H7 s7 w7 hvs => ?_)) (gd_ixL (n := 0) (gd_var rfl Wm.nil p26) gd_i (rowL_at (by rw [hgl]; exact hn1)))) fun v H7 s7 p7 => ?_
        · rw [hqy]; rfl
        · obtain ⟨v1, q1, rfl, rfl, v2, q2, rfl, rfl, v3, q3, rfl, h3, rfl⟩ := hvs
          obtain ⟨ty', xs, rfl, _, _⟩ := dp_tup h3
          exact ⟨pd, ty', rfl, hD.sm (s6.trans s7) Wm.nil, h3⟩
        · obtain ⟨r', rfl, hR⟩ := p7
          exact q _ _ r' H7 LE (((s03.trans s5).trans s6).trans s7) hR
end
end K29
namespace K29
open PySem PySem.Spec PyProof.Rows L2
theorem push_at (A : Aut) (q : Nat) (w : List Nat) (L : Lst) (c : Nat) {k : Nat} {p : Nat × List Nat} (h : L[k]? = some p) : (A.push q w L c)[k]? = some p := by
  unfold Aut.push
  split
  · exact h
  · rw [List.getElem?_append_left (List.getElem?_eq_some_iff.mp h).1]; exact h
theorem fold_push_at (A : Aut) (q : Nat) (w : List Nat) : ∀ (cs : List Nat) (L : Lst) {k : Nat} {p : Nat × List Nat}, L[k]? = some p → (cs.foldl (A.push q w) L)[k]? = some p
  | [], _, _, _, h => h
  | c :: cs, L, _, _, h => fold_push_at A q w cs (A.push q w L c) (push_at A q w L c h)
def txts (l : List (List Nat)) : List V := l.map fun w => V.str (tx w)
def textsD (l : List (List Nat)) : PyData := .list (l.map fun w => PyData.str (tx w))
theorem tx_app (a b : List Nat) : tx a ++ tx b = tx (a ++ b) := by
  show Str.mk _ = _
  unfold tx
  congr 1
  simp
section
variable {K : PySem.W.Frag} {m : List Addr} {σ : L2.St} {H H' : Hp} {ta tb te tl td tk tv to : TE} {t : TA} {D : Ends} {d : PyData} {ds : List PyData} {C : Addr} {A : Aut} {i j : Nat} {P : V → Hp → Prop} {u tbody : TS} {l : List Nat}
theorem dps_txts (l : List (List Nat)) : DpAll K H (txts l) (l.map fun w => PyData.str (tx w)) := by
  induction l with
  | nil => exact .nil
  | cons a l ih => exact .cons (.str _) ih
theorem r_forStr (h : Gd K [] te σ H (.str (tx l))) (Pv : Nat → L2.St → Hp → Prop) (h0 : ∀ H1, Sm [] H H1 → Pv 0 σ H1)
    (hs : ∀ i σ' H' (N : L2.St → Hp → Prop), i < l.length → Pv i σ' H' → (∀ σ2 H2, Pv (i + 1) σ2 H2 → N σ2 H2) → tbody { D with nx := N, ct := N, bk := D.nx } (σ'.set j (some (.str (tx [l.getD i 0])))) H')
    (hd : ∀ σ' H', Pv l.length σ' H' → D.nx σ' H') : tFor (iStr te) (gName j) tbody D σ H :=
  h.go fun v H2 s2 p => by
    cases dp_str p
    refine ⟨tx l, rfl, for_it (walk_str (z := tx l)) Pv (h0 H2 s2) (fun _ _ _ _ _ => trivial) (fun i x σ' H' H'' hi p y => ?_) hd⟩
    obtain ⟨rfl, c, hc, rfl⟩ := y
    have e : c = l.getD i 0 := by
      have h2 : l[i]? = some c := by simpa [tx] using hc
      rw [List.getD_eq_getElem?_getD, h2]; rfl
    subst e
    exact hs i σ' H'' _ hi p fun _ _ h => h
theorem rq_forStr (h : Gd K [] te σ H (.str (tx l))) (Pv : Nat → L2.St → Hp → Prop) (h0 : ∀ H1, Sm [] H H1 → Pv 0 σ H1)
    (hs : ∀ i σ' H' (N : L2.St → Hp → Prop), i < l.length → Pv i σ' H' → (∀ σ2 H2, Pv (i + 1) σ2 H2 → N σ2 H2) → tbody { D with nx := N, ct := N, bk := u D } (σ'.set j (some (.str (tx [l.getD i 0])))) H')
    (hd : ∀ σ' H', Pv l.length σ' H' → u D σ' H') : tSeq (tFor (iStr te) (gName j) tbody) u D σ H := r_forStr (D := { D with nx := u D }) h Pv h0 hs hd
theorem r_app {fo : Addr} {xs : List V} (hv : σ[i]? = some (some (.ref fo))) (hf : H fo = some (.lst xs)) (hl : xs.length ≤ 10000) (ha : Gets [] ta σ H P) (k : ∀ v H1, Sm [] H H1 → P v H1 → D.nx σ (upd H1 fo (.lst (xs ++ [v])))) : tDrop (tBM K "list" rAppend (tVar i) (tCons ta tNil)) D σ H :=
  ⟨.ref fo, hv, .inl ⟨rfl, _, SqL.of hf⟩, ha.go (Q := fun y H1 => rAppend (.ref fo) [y] H1 fun _ H2 => D.nx σ H2) fun v H1 s p => ⟨fo, xs, v, rfl, rfl, s _ _ (by simp) hf, Nat.lt_of_le_of_lt hl (by decide), k v H1 s p⟩⟩
theorem rq_app {fo : Addr} {xs : List V} (hv : σ[i]? = some (some (.ref fo))) (hf : H fo = some (.lst xs)) (hl : xs.length ≤ 10000) (ha : Gets [] ta σ H P) (k : ∀ v H1, Sm [] H H1 → P v H1 → u D σ (upd H1 fo (.lst (xs ++ [v])))) : tSeq (tDrop (tBM K "list" rAppend (tVar i) (tCons ta tNil))) u D σ H := r_app (D := { D with nx := u D }) hv hf hl ha k
theorem gd_cat {a b : List Nat} (ha : Gd K m ta σ H (.str (tx a))) (hb : Gd K m tb σ H (.str (tx b))) (hl : a.length + b.length ≤ 100000) : Gd K m (tOp (fun x y H Q => ∃ i j, x = .str i ∧ y = .str j ∧ i.length + j.length ≤ sizeLine ∧ Q (.str (i ++ j)) H) ta tb) σ H (.str (tx (a ++ b))) := gd_op ha hb fun x y H1 _ w hx hy Q q => by
  cases hx; cases hy
  refine ⟨tx a, tx b, rfl, rfl, Nat.le_trans (show a.length + b.length ≤ 100000 from hl) (by decide), ?_⟩
  rw [tx_app]
  exact q _ H1 (Sm.refl _ _) w (.str _)
theorem rowL_of {fo : Addr} {l : List Nat} (h : H fo = some (.lst (nats l))) : Dp K H (.ref fo) (rowL l) := .lst (SqL.of h) (dps_nats _)
theorem textsL_of {fo : Addr} {l : List (List Nat)} (h : H fo = some (.lst (txts l))) : Dp K H (.ref fo) (textsD l) := .lst (SqL.of h) (dps_txts _)
end
section
variable {P : Program} {w : World} {K : PySem.W.Frag} {mg : Str → Option Value} {base : Heap} {f C : Addr} {fd : FuncData}
abbrev N_first_texts : List Str := ["reader", "states", "found", "at", "letter", "state"]
theorem sc_first_texts : FnScope N_first_texts ["reader"] (defScope s_first_texts) := ⟨rfl, rfl, rfl, by decide +kernel, rfl, by decide +kernel, by decide +kernel⟩
def sp_first_texts (K : PySem.W.Frag) (C : Addr) : Sp := fun vs H Q _ => ∃ (A : Aut) (r : Addr), vs = [.ref r] ∧ A.Ok ∧ RdAt K C H r A ∧ Gives K H Q (textsD ((A.bfs 0).map (·.2)))
theorem ok_first_texts (F : Fun K "first_texts" "first_texts" s_first_texts f fd) (T : Txt K mg C) : FnOk P w K mg base CX0 1 f fd ["reader"] (sp_first_texts K C) := by
  refine F.ok sc_first_texts (fun vs H Q E h => ?_) (fun cdv A outer s H vs Q E hr h => ?_)
  · obtain ⟨A, r, rfl, _⟩ := h
    rfl
  · obtain ⟨B, r, rfl, ok, ⟨d, ty, R⟩, q⟩ := h
    have nd := sc_first_texts.nd
    have hu := hu_of hr
    refine ⟨_, (pss_cons (ps_par3 (i := 1) (j := 2) (l := 3) rfl nd rfl rfl rfl (by decide) (by decide) (by decide) rfl rfl rfl (pa_cons (pe_lst (pa_cons pe_int pa_nil)) (pa_cons (pe_lst (pa_cons pe_str pa_nil)) (pa_cons pe_int pa_nil))) (by rfl))
  (pss_cons (ps_while PassesOwn.never (pt_cmpR op_lt (pv 3) (pe_callB (lenSeq_ K) (by rfl) T.len PySem.boot_len (pa_cons (pv 1) pa_nil)) (nomark _)) 
    (pss_cons (ps_for PassesOwn.never rfl (pi_str (pe_fldK (K := K) (pv 0))) (pg_name (i := 4) nd rfl (.inl rfl)) 
      (pss_cons (ps_set (i := 5) nd rfl (.inl rfl) (pe_ix (ixT_ K) (pe_dget hu (pe_fldK (K := K) (pv 0)) (pv 4) (fun _ _ => rfl)) (pe_ix (ixL_ K) (pv 1) (pv 3) (fun _ _ => rfl)) (fun _ _ => rfl)))
      (pss_one (ps_if (pt_cmpR (notInSeq_ K) (pv 5) (pv 1) (by rfl)) 
        (pss_cons (ps_expr (pe_lmK (K := K) PySem.F.slot_list_append PySem.F.type_list_append mt_append (pv 1) (pa_cons (pv 5) pa_nil)))
        (pss_one (ps_expr (pe_lmK (K := K) PySem.F.slot_list_append PySem.F.type_list_append mt_append (pv 2) (pa_cons (pe_op op_add_str (pe_ix (ixL_ K) (pv 2) (pv 3) (fun _ _ => rfl)) (pv 4)) pa_nil))))) pss_nil))))
    (pss_one (ps_aug (i := 3) nd rfl (.inl rfl) pe_int ip_add))))
  (pss_one (ps_ret (pv 2))))), ?_⟩
    have h60 := ok.n60
    have hl3 := ok.l3
    have hs0 := ok.n1
    refine ⟨show 1 ≤ sizeLine by decide, fun ps hps => ⟨show 1 ≤ sizeLine by decide, fun pf hpf => ⟨_, _, _, rfl, ?_⟩⟩⟩
    have hne : ps ≠ pf := fun e => by
      subst e
      rw [upd_same] at hpf; cases hpf
    have hpf0 : H pf = none := by rw [upd_ne hne.symm] at hpf; exact hpf
    have hlen : ∀ k, (B.bfsAt 0 k).length ≤ B.n := fun k => bfsAt_len ok hs0 k
    have hsh : ∀ k, ∀ p ∈ B.bfsAt 0 k, p.2.length ≤ k := bfsAt_short
    let I : Nat → L2.St → Hp → Prop := fun k σ' H' => ∃ (w4 w5 : Option V), Sm [] H H' ∧ H' ps = some (.lst (nats ((B.bfsAt 0 k).map (·.1)))) ∧ H' pf = some (.lst (txts ((B.bfsAt 0 k).map (·.2)))) ∧ σ' = [some (.ref r), some (.ref ps), some (.ref pf), some (.int (k : Int)), w4, w5]
    refine rq_while (fun k' σ' H' => ∃ k, k' = 100 - k ∧ k ≤ B.n ∧ I k σ' H')
      100 ⟨0, rfl, Nat.zero_le _, none, none, (Sm.new hps).trans (Sm.new hpf), by rw [upd_ne hne]; exact upd_same, upd_same, rfl⟩ fun k' σ' H' hW => ?_
    obtain ⟨k, rfl, hk, w4, w5, s2, hS, hF, rfl⟩ := hW
    have hlk := hlen k
    refine ⟨decide (k < (B.bfsAt 0 k).length), GetsT.is (gt_test (K := K) (gd_lt (gd_vi (n := (k : Int)) rfl) (gd_lenS (n := (B.bfsAt 0 k).length) (ga_cons (gd_var rfl Wm.nil (rowL_of hS)) ga_nil) (by simp only [List.length_map])))) (by simp only [Int.ofNat_lt]), fun hlt H1 s3 N hN => ?_, fun hge H1 s3 => ?_⟩
    · have hlt := of_decide_eq_true hlt
      have hkn : k < B.n := by omega
      obtain ⟨pq, hpq⟩ : ∃ pq, (B.bfsAt 0 k)[k]? = some pq := ⟨_, List.getElem?_eq_getElem hlt⟩
      have hpm := List.mem_of_getElem? hpq
      have hpl : pq.1 < B.n := (bfsAt_ok ok hs0 k).lt pq hpm
      have hpsh := hsh k pq hpm
      let J : Nat → Lst := fun i => (B.ls.take i).foldl (B.push pq.1 pq.2) (B.bfsAt 0 k)
      have hJk : ∀ i, (J i)[k]? = some pq := fun i => fold_push_at B pq.1 pq.2 (B.ls.take i) (B.bfsAt 0 k) hpq
      have hJl : ∀ i, (J i).length ≤ 63 := fun i => by
        have := fold_push_len B pq.1 pq.2 (B.ls.take i) (B.bfsAt 0 k)
        have h3 : (B.ls.take i).length ≤ B.ls.length := by rw [List.length_take]; omega
        show ((B.ls.take i).foldl (B.push pq.1 pq.2) (B.bfsAt 0 k)).length ≤ 63
        omega
      refine rq_forStr (K := K) (l := B.ls) (gd_fld_l (gv_var rfl) (R.sm0 (s2.trans s3)) Wm.nil T) (fun i σ' H' => ∃ (w4 w5 : Option V), Sm [] H H' ∧ H' ps = some (.lst (nats ((J i).map (·.1)))) ∧ H' pf = some (.lst (txts ((J i).map (·.2)))) ∧ σ' = [some (.ref r), some (.ref ps), some (.ref pf), some (.int (k : Int)), w4, w5])
        (fun H2 s4 => ⟨w4, w5, (s2.trans s3).trans s4, (s3.trans s4) _ _ (by simp) hS, (s3.trans s4) _ _ (by simp) hF, rfl⟩) (fun i σ' H' N' hi hP kk => ?_) fun σ' H' hP => ?_
      · obtain ⟨w4, w5, s5, hS5, hF5, rfl⟩ := hP
        have R5 := R.sm0 s5
        refine rq_asg (gd_mv (K := K) (c := B.ls.getD i 0) (i := pq.1) ok (gv_var rfl) R5 Wm.nil T (gd_vs rfl) (ls_getD hi) (gd_ixL (n := k) (gd_var rfl Wm.nil (rowL_of hS5)) (gd_vi rfl) (by rw [List.getElem?_map, List.getElem?_map, hJk i]; rfl)) hpl) fun v H6 s6 p6 => ?_
        cases dp_int p6
        have hS6 := s6 _ _ (by simp) hS5
        have hF6 := s6 _ _ (by simp) hF5
        have e1 : J (i + 1) = B.push pq.1 pq.2 (J i) (B.ls.getD i 0) := fold_take (B.push pq.1 pq.2) (B.bfsAt 0 k) B.ls hi
        have hJi := hJl i
        refine r_if (b := !decide (B.mv (B.ls.getD i 0) pq.1 ∈ (J i).map (·.1))) (gt_test (K := K) (gd_op (gd_vi (n := (B.mv (B.ls.getD i 0) pq.1 : Int)) rfl) (gd_var rfl Wm.nil (rowL_of hS6)) rd_notInL)) (fun h H7 s7 => ?_) fun h H7 s7 => ?_
        · have hnm : B.mv (B.ls.getD i 0) pq.1 ∉ (J i).map (·.1) := by simpa using h
          have hS7 := s7 _ _ (by simp) hS6
          have hF7 := s7 _ _ (by simp) hF6
          refine rq_app (K := K) rfl hS7 (by unfold nats; rw [List.length_map, List.length_map]; omega) (gv_var rfl) fun v8 H8 s8 e8 => ?_
          subst e8
          have hF8 : (upd H8 ps (.lst (nats ((J i).map (·.1)) ++ [V.int (B.mv (B.ls.getD i 0) pq.1 : Int)]))) pf = some (.lst (txts ((J i).map (·.2)))) := by rw [upd_ne hne.symm]; exact s8 _ _ (by simp) hF7
          have hlst := (s8 _ _ (by simp) hF7)
          refine r_app (K := K) rfl hF8 (by unfold txts; rw [List.length_map, List.length_map]; omega) (gd_cat (K := K) (a := pq.2) (b := [B.ls.getD i 0]) (gd_ixL (n := k) (gd_var rfl Wm.nil (textsL_of hF8)) (gd_vi rfl) (by rw [List.getElem?_map, List.getElem?_map, hJk i]; rfl)) (gd_vs rfl) (by simp; omega)) fun v9 H9 s9 e9 => ?_
          cases dp_str e9
          have s10 : Sm [] H (upd H8 ps (.lst (nats ((J i).map (·.1)) ++ [V.int (B.mv (B.ls.getD i 0) pq.1 : Int)]))) := (((s5.trans s6).trans s7).trans s8).mut hps
          refine kk _ _ ⟨_, _, (s10.trans s9).mut hpf0, ?_, ?_, rfl⟩
          · rw [upd_ne hne, e1]
            have e2 : B.push pq.1 pq.2 (J i) (B.ls.getD i 0) = J i ++ [(B.mv (B.ls.getD i 0) pq.1, pq.2 ++ [B.ls.getD i 0])] := by unfold Aut.push; rw [if_neg hnm]
            rw [e2]
            have := s9 ps _ (by simp) upd_same
            rw [this]
            unfold nats
            simp
          · rw [upd_same, e1]
            have e2 : B.push pq.1 pq.2 (J i) (B.ls.getD i 0) = J i ++ [(B.mv (B.ls.getD i 0) pq.1, pq.2 ++ [B.ls.getD i 0])] := by unfold Aut.push; rw [if_neg hnm]
            rw [e2]
            unfold txts
            simp
        · have hm : B.mv (B.ls.getD i 0) pq.1 ∈ (J i).map (·.1) := by simpa using h
          have e2 : J (i + 1) = J i := by rw [e1]; unfold Aut.push; rw [if_pos hm]
          refine kk _ _ ⟨_, _, (s5.trans s6).trans s7, ?_, ?_, rfl⟩
          · rw [e2]; exact s7 _ _ (by simp) hS6
          · rw [e2]; exact s7 _ _ (by simp) hF6
      · obtain ⟨w4, w5, s5, hS5, hF5, rfl⟩ := hP
        have e1 : J B.ls.length = B.bfsAt 0 (k + 1) := by
          show (B.ls.take B.ls.length).foldl (B.push pq.1 pq.2) (B.bfsAt 0 k) = _
          rw [List.take_length, ← bfsAt_next hpq]
        rw [e1] at hS5 hF5
        refine r_aug (K := K) (a := (k : Int)) (b := 1) rfl gd_i fun H7 s7 => hN (100 - (k + 1)) _ _ (by omega) ⟨k + 1, rfl, by omega, w4, w5, s5.trans s7, s7 _ _ (by simp) hS5, s7 _ _ (by simp) hF5, rfl⟩
    · have hge := of_decide_eq_false hge
      rw [bfsAt_done ok hs0 (by omega)] at hF
      exact r_ret (gd_var rfl Wm.nil (textsL_of (s3 _ _ (by simp) hF))) fun v H2 s4 p4 => q v H2 ((s2.trans s3).trans s4) p4
end
end K29
namespace K29
open PySem PySem.Spec PyProof.Rows L2
theorem lay_ints : ∀ (L : List Nat), PyData.canLayAll0 (L.map fun q : Nat => PyData.int (q : Int)) = true ∧ PyData.depthAll (L.map fun q : Nat => PyData.int (q : Int)) = 0
  | [] => ⟨rfl, rfl⟩
  | a :: L => by
    obtain ⟨h1, h2⟩ := lay_ints L
    rw [List.map_cons]
    exact ⟨by simp [PyData.canLayAll0, PyData.canLay0, h1], by simp [PyData.depthAll, PyData.depth, h2]⟩
theorem shaped_ints (L : List Nat) : SeqAt.shaped (rowL L) = true := by
  obtain ⟨h1, h2⟩ := lay_ints L
  unfold SeqAt.shaped rowL
  simp [PyData.canLay0, PyData.depth, h1, h2]
theorem findSome_at {α β : Type} {g : α → Option β} {b : β} : ∀ {l : List α} {i : Nat} {a : α}, l[i]? = some a → g a = some b → (∀ x ∈ l.take i, g x = none) → l.findSome? g = some b
  | [], _, _, h, _, _ => by simp at h
  | x :: l, 0, a, h, hg, _ => by
    have e : x = a := Option.some.inj h
    subst e
    rw [List.findSome?_cons, hg]
  | x :: l, i + 1, a, h, hg, hn => by
    rw [List.findSome?_cons, hn x (by simp)]
    exact findSome_at (l := l) (i := i) h hg fun y hy => hn y (by rw [List.take_succ_cons]; exact List.mem_cons_of_mem _ hy)
theorem filter_map_rg (s n : Nat) (p : Nat → Bool) : ((List.range n).filter fun i => p (s + i)).map (fun i => s + i) = (List.range' s n).filter p := by
  rw [List.range'_eq_map_range, List.filter_map]
  rfl
section
variable {K : PySem.W.Frag} {m : List Addr} {σ : L2.St} {H H' : Hp} {ta tb te tl td tk tv to : TE} {t : TA} {d da db : PyData} {ds : List PyData}
theorem gd_neD (ha : Gd K m ta σ H da) (hb : Gd K m tb σ H db) (sa : SeqAt.shaped da = true) (sb : SeqAt.shaped db = true) (ok : okD m da := by first | exact Or.inl rfl | exact Or.inr rfl) : Gd K m (tOp (rNeD K) ta tb) σ H (.bool (!PyData.eqv da db)) :=
  gd_op ha hb (fun x y H1 _ w hx hy Q q => ⟨da, db, hx, hy, sa, sb, q _ H1 (Sm.refl _ _) w (.bl _)⟩) ok
theorem gd_eqD (ha : Gd K m ta σ H da) (hb : Gd K m tb σ H db) (sa : SeqAt.shaped da = true) (sb : SeqAt.shaped db = true) (ok : okD m da := by first | exact Or.inl rfl | exact Or.inr rfl) : Gd K m (tOp (rEqD K) ta tb) σ H (.bool (PyData.eqv da db)) :=
  gd_op ha hb (fun x y H1 _ w hx hy Q q => ⟨da, db, hx, hy, sa, sb, q _ H1 (Sm.refl _ _) w (.bl _)⟩) ok
end
/-- what first_merge hands back -/
def mD : Option (Nat × List Nat × List Nat) → PyData
  | none => .none
  | some (c, u, v) => .tuple [.str (tx [c]), .str (tx u), .str (tx v)]
section
variable {P : Program} {w : World} {K : PySem.W.Frag} {mg : Str → Option Value} {base : Heap} {f C : Addr} {fd : FuncData}
abbrev N_merge_of : List Str := ["reader", "least", "texts", "letter", "row", "one", "others", "other"]
theorem sc_merge_of : FnScope N_merge_of ["reader"] (defScope s_merge_of) := ⟨rfl, rfl, rfl, by decide +kernel, rfl, by decide +kernel, by decide +kernel⟩
def GivesM (K : PySem.W.Frag) (C : Addr) (H : Hp) (Q : VK) (A : Aut) : Prop := ∀ B T v H', LeastOf A B T → Sm [] H H' → Dp K H' v (mD (mergeOf B T)) → Q v H'
def sp_merge_of (K : PySem.W.Frag) (C : Addr) : Sp := fun vs H Q _ => ∃ (A : Aut) (r : Addr), vs = [.ref r] ∧ A.Ok ∧ RdAt K C H r A ∧ GivesM K C H Q A
theorem ok_merge_of (F : Fun K "merge_of" "merge_of" s_merge_of f fd) (T : Txt K mg C) (Gleast_of : Ok1 P w K mg base "least_of" ["reader"] 8 (sp_least_of K C)) (Gfirst_texts : Ok1 P w K mg base "first_texts" ["reader"] 1 (sp_first_texts K C)) : FnOk P w K mg base CX0 9 f fd ["reader"] (sp_merge_of K C) := by
  refine F.ok sc_merge_of (fun vs H Q E h => ?_) (fun cdv A outer s H vs Q E hr h => ?_)
  · obtain ⟨A, r, rfl, _⟩ := h
    rfl
  · obtain ⟨A, r, rfl, okA, RA, q⟩ := h
    have nd := sc_merge_of.nd
    have hu := hu_of hr
    refine ⟨_, (pss_cons (ps_set (i := 1) nd rfl (.inl rfl) (pe_callP Gleast_of hr (by rfl) (pa_cons (pv 0) pa_nil)))
  (pss_cons (ps_set (i := 2) nd rfl (.inl rfl) (pe_callP Gfirst_texts hr (by rfl) (pa_cons (pv 1) pa_nil)))
  (pss_cons (ps_lock (ps_for PassesOwn.never rfl (pi_items (pe_fldK (K := K) (pv 1))) (pg_tup rfl (pgs_cons (pg_name (i := 3) nd rfl (.inl rfl)) (pgs_cons (pg_name (i := 4) nd rfl (.inr rfl)) pgs_nil))) 
    (pss_one (ps_for PassesOwn.never rfl (pi_range1 (by rfl) T.range (pa_cons (pe_callB (lenSeq_ K) (by rfl) T.len PySem.boot_len (pa_cons (pv 4) pa_nil)) pa_nil)) (pg_name (i := 5) nd rfl (.inr rfl)) 
      (pss_cons (ps_setLc (i := 6) (own := [("other", 7)]) rfl nd rfl rfl (sw_true rfl rfl rfl (by decide +kernel)) (pi_range2 (by rfl) T.range (pa_cons (pe_op op_add (pv 5) pe_int) (pa_cons (pe_callB (lenSeq_ K) (by rfl) T.len PySem.boot_len (pa_cons (pv 4) pa_nil)) pa_nil))) (blkOk_by (N := N_merge_of) (sc := defScope s_merge_of) (by decide +kernel)) (fun _ _ _ _ _ => (pg_name (i := 7) nd rfl (.inl rfl) (hf := .inr rfl))) (fun _ _ _ _ _ => (pts_one (pt_cmpR op_eq (pe_ix (ixT_ K) (pv 4) (pv 7) (fun _ _ => rfl)) (pe_ix (ixT_ K) (pv 4) (pv 5) (fun _ _ => rfl)) (nomark _)))) (fun _ _ _ _ _ => (pv 7)))
      (pss_one (ps_if (pt_cmpR (neD_ K hr.units) (pv 6) (pe_lst pa_nil) (nomark _)) 
        (pss_one (ps_ret (pe_tup (pa_cons (pv 3) (pa_cons (pe_ix (ixL_ K) (pv 2) (pv 5) (fun _ _ => rfl)) (pa_cons (pe_ix (ixL_ K) (pv 2) (pe_ix (ixL_ K) (pv 6) pe_int (fun _ _ => rfl)) (fun _ _ => rfl)) pa_nil)))))) pss_nil)))))))
  (pss_one (ps_ret pe_non))))), ?_⟩
    refine rq_asg (P := fun v H' => ∃ B Tx r', LeastOf A B Tx ∧ v = .ref r' ∧ RdAt K C H' r' B) (gd_call (gA_v (gv_var rfl) gA_nil) fun vs H2 s2 w2 p Q k => ?_) fun v1 H1 s1 p1 => ?_
    · subst p
      exact ⟨A, r, rfl, okA, RA.sm0 s2, fun B Tx r' H3 L s3 R3 => k _ H3 s3 Wm.nil ⟨B, Tx, r', L, rfl, R3⟩⟩
    obtain ⟨B, Tx, r1, L, rfl, RB⟩ := p1
    have ok := L.ok
    have hTl := L.len
    have hT := L.bfs
    have h60 := ok.n60
    refine rq_asg (P := fun v H' => Dp K H' v (textsD Tx)) (gd_call (gA_v (gv_var rfl) gA_nil) fun vs H2 s2 w2 p Q k => ?_) fun v2 H2 s2 p2 => ?_
    · subst p
      exact ⟨B, r1, rfl, ok, RB.sm0 s2, fun v H3 s3 p3 => k _ H3 s3 Wm.nil (by rw [hT] at p3; exact p3)⟩
    have RB2 := RB.sm0 s2
    obtain ⟨d1, ty1, ⟨dx1, hr1⟩, ⟨kvs, hd1, hd2, hd3⟩, hy1⟩ := id RB2
    have hdr : d1 ≠ r1 := fun e => by
      subst e
      rw [hr1] at hd1; cases hd1
    refine rq_forItems (B := B) (Sm.refl _ _) hd1 hd2 hd3 (fun od => gv_fldm' (gv_var rfl) (show (upd H2 d1 (.frz od (.dK kvs))) r1 = some (.ins C dx1 (rdF B.ls d1 ty1)) by rw [upd_ne hdr.symm]; exact hr1) Wm.nil T)
      (fun i σ' H' => ∃ (w3 w4 w5 w6 : Option V), σ' = [some (.ref r), some (.ref r1), some v2, w3, w4, w5, w6, none] ∧ ∀ x ∈ B.ls.take i, mergeI B Tx x = none) (fun od H4 s4 => ⟨none, none, none, none, rfl, by simp⟩) (fun i σ' H' T' o h hT' => h) (fun od i y σ' H' N hi s4 hP hy hN bk => ?_) fun od σ' H' s4 hP => ?_
    · obtain ⟨w3, w4, w5, w6, rfl, hno⟩ := hP
      have hc := ls_getD hi
      have hrl := row_len ok hc
      have p24 := dp_sm0 s4 (dp_lock (od := od) hd1 p2)
      refine r_for1 (K := K) (n := B.n) (src_range1 (n := B.n) (ga_cons (gd_lenT (n := B.n) (ga_cons (gd_var rfl Wm.nil hy) ga_nil) (by rw [List.length_map, hrl])) ga_nil) (by omega))
        (fun j σ'' H'' => ∃ (w5 w6 : Option V), σ'' = [some (.ref r), some (.ref r1), some v2, some (.str (tx [B.ls.getD i 0])), some y, w5, w6, none] ∧ ∀ x ∈ (List.range B.n).take j, mergeJ B Tx (B.ls.getD i 0) x = none)
        (fun H5 s5 => ⟨w5, w6, rfl, by simp⟩) (fun j x σ'' H'' N' hj s5 hP5 hx kk => ?_) fun σ'' H'' s5 hP5 => ?_
      · obtain ⟨w5, w6, rfl, hno5⟩ := hP5
        cases dp_int hx
        have hy5 := dp_sm0 s5 hy
        have p25 := dp_sm0 s5 p24
        have ejr : (List.range B.n)[j]? = some j := List.getElem?_range hj
        let LL := (List.range' (j + 1) (B.n - (j + 1))).filter fun z => decide (B.mv (B.ls.getD i 0) z = B.mv (B.ls.getD i 0) j)
        refine rq_asg (Gets.is (gd_lcF1 (K := K) (n := B.n - (j + 1)) (fun z => decide (B.mv (B.ls.getD i 0) (j + 1 + z) = B.mv (B.ls.getD i 0) j)) (fun z => .int ((j + 1 + z : Nat) : Int)) (src_of (E' := fun z => .int ((j + 1 + z : Nat) : Int)) (src_range2 (lo := ((j + 1 : Nat) : Int)) (hi := (B.n : Int)) (n := B.n - (j + 1)) (ga_cons (Gets.is (gd_add (gd_vi (n := (j : Int)) rfl) gd_i) (by congr 1)) (ga_cons (gd_lenT (n := B.n) (ga_cons (gd_var rfl Wm.nil hy5) ga_nil) (by rw [List.length_map, hrl])) ga_nil)) ⟨by omega, by omega, by omega, by omega⟩ (by omega)) rfl fun z hz => by congr 1) (by omega) (fun z x' H6 hz s6 w6 hx' => ?_) (fun z x' H6 hz hf s6 w6 hx' => gd_var rfl w6 hx')) (show _ = rowL LL by
            show PyData.list _ = PyData.list (LL.map _)
            rw [show LL = _ from (filter_map_rg (j + 1) (B.n - (j + 1)) fun z => decide (B.mv (B.ls.getD i 0) z = B.mv (B.ls.getD i 0) j)).symm, List.map_map]
            rfl)) fun v6 H6 s6 p6 => ?_
        · cases dp_int hx'
          exact GetsT.is (gt_test (K := K) (gd_op (gd_ixT (n := j + 1 + z) (gd_var rfl Wm.nil (dp_sm0 s6 hy5)) (gd_vi rfl) (rowD_get (row_get ok hc (show j + 1 + z < B.n by omega)))) (gd_ixT (n := j) (gd_var rfl Wm.nil (dp_sm0 s6 hy5)) (gd_vi rfl) (rowD_get (row_get ok hc hj))) rd_eqI)) (decide_eq_decide.mpr Int.ofNat_inj)
        · have emJ : mergeJ B Tx (B.ls.getD i 0) j = LL.head?.map fun z => (B.ls.getD i 0, Tx.getD j [], Tx.getD z []) := rfl
          have hLm : ∀ z ∈ LL, z < B.n := fun z hz => by
            have := List.mem_range'_1.mp (List.mem_filter.mp hz).1
            omega
          refine r_if (b := !PyData.eqv (rowL LL) (.list [])) (gt_test (K := K) (gd_neD (gd_var rfl Wm.nil p6) (gd_lst ga_nil (show 0 ≤ 100000 by omega)) (shaped_ints LL) rfl)) (fun h H7 s7 => ?_) fun h H7 s7 => ?_
          · cases hLL : LL with
            | nil => rw [hLL] at h; simp [rowL, PyData.eqv, PyData.eqvAll] at h
            | cons z zs =>
              have hz : z < B.n := hLm z (by rw [hLL]; simp)
              have p7 := dp_sm0 s7 p6
              have p27 := dp_sm0 (s6.trans s7) p25
              rw [hLL] at p7
              have tAt : ∀ {k}, k < B.n → (Tx.map fun w => PyData.str (tx w))[k]? = some (.str (tx (Tx.getD k []))) := fun {k} hk => by
                rw [List.getElem?_map, List.getD_eq_getElem?_getD, List.getElem?_eq_getElem (by omega)]; rfl
              refine r_ret (gd_tup (ds := [.str (tx [B.ls.getD i 0]), .str (tx (Tx.getD j [])), .str (tx (Tx.getD z []))]) (ga_cons (K := K) (gd_vs rfl) (ga_cons (gd_ixL (n := j) (gd_var rfl Wm.nil p27) (gd_vi rfl) (tAt hj)) (ga_cons (gd_ixL (n := z) (gd_var rfl Wm.nil p27) (gd_ixL (n := 0) (gd_var rfl Wm.nil p7) gd_i rfl) (tAt hz)) ga_nil))) (show 3 ≤ 100000 by omega)) fun v8 H8 s8 p8 => ?_
              have sall := (((s4.trans s5).trans s6).trans s7).trans s8
              have hfz : H8 d1 = some (.frz od (.dK kvs)) := sall _ _ (by simp) upd_same
              refine ⟨hfz, q B Tx v8 _ L ((s1.trans s2).trans (sm_unlock sall hd1)) ?_⟩
              have e : mergeOf B Tx = some (B.ls.getD i 0, Tx.getD j [], Tx.getD z []) := by
                refine findSome_at (i := i) (a := B.ls.getD i 0) (by rw [List.getElem?_eq_getElem hi, getD_of hi]) ?_ hno
                refine findSome_at (i := j) (a := j) ejr ?_ hno5
                rw [emJ, hLL]; rfl
              rw [e]
              exact dp_unlock hfz p8
          · have hLL : LL = [] := by
              cases hLL : LL with
              | nil => rfl
              | cons z zs => rw [hLL] at h; simp [rowL, PyData.eqv, PyData.eqvAll] at h
            refine kk _ _ (s6.trans s7) ⟨_, _, rfl, fun x hx => ?_⟩
            rw [List.take_add_one, ejr] at hx
            rcases List.mem_append.mp hx with hx | hx
            · exact hno5 x hx
            · have e : x = j := by simpa using hx
              subst e
              rw [emJ, hLL]; rfl
      · obtain ⟨w5, w6, rfl, hno5⟩ := hP5
        rw [List.take_of_length_le (by simp)] at hno5
        refine hN _ _ (s4.trans s5) ⟨_, _, _, _, rfl, fun x hx => ?_⟩
        rw [List.take_add_one, List.getElem?_eq_getElem hi] at hx
        rcases List.mem_append.mp hx with hx | hx
        · exact hno x hx
        · have e : x = B.ls.getD i 0 := by rw [getD_of hi]; simpa using hx
          subst e
          exact List.findSome?_eq_none_iff.mpr hno5
    · obtain ⟨w3, w4, w5, w6, rfl, hno⟩ := hP
      rw [List.take_length] at hno
      have s5 := sm_unlock s4 hd1
      refine r_ret (K29.gd_n (K := K)) fun v H5 s6 p6 => q B Tx v H5 L (((s1.trans s2).trans s5).trans s6) ?_
      have e : mergeOf B Tx = none := List.findSome?_eq_none_iff.mpr hno
      rw [e]
      exact p6
end
end K29
namespace K29
open PySem PySem.Spec PyProof.Rows L2
section
variable {P : Program} {w : World} {K : PySem.W.Frag} {mg : Str → Option Value} {base : Heap} {f C : Addr} {fd : FuncData}
section
variable {σ : L2.St} {H : Hp} {ta : TE} {A : Aut} {r : Addr}
theorem gd_require (hr : Gv [] ta σ H (.ref r)) (R : RdAt K C H r A) : Gd K [] (tCall (sp_require_reader K C) [] E0 (tCons ta tNil)) σ H .none :=
  gd_call (gA_v hr gA_nil) fun vs H1 s1 w1 p Q k => by
    subst p
    exact ⟨A, r, rfl, R.sm0 s1, fun v H2 s2 p2 => k v H2 s2 Wm.nil p2⟩
abbrev IsLd (K : PySem.W.Frag) (C : Addr) (A : Aut) : V → Hp → Prop := fun v H' => ∃ B T r', LeastOf A B T ∧ v = .ref r' ∧ RdAt K C H' r' B
theorem gets_least (ok : A.Ok) (hr : Gv [] ta σ H (.ref r)) (R : RdAt K C H r A) : Gets [] (tCall (sp_least_of K C) [] E0 (tCons ta tNil)) σ H (IsLd K C A) :=
  gd_call (gA_v hr gA_nil) fun vs H2 s2 w2 p Q k => by
    subst p
    exact ⟨A, r, rfl, ok, R.sm0 s2, fun B Tx r' H3 L s3 R3 => k _ H3 s3 Wm.nil ⟨B, Tx, r', L, rfl, R3⟩⟩
abbrev IsMg (K : PySem.W.Frag) (A : Aut) : V → Hp → Prop := fun v H' => ∃ B T, LeastOf A B T ∧ Dp K H' v (mD (mergeOf B T))
theorem gets_merge (ok : A.Ok) (hr : Gv [] ta σ H (.ref r)) (R : RdAt K C H r A) : Gets [] (tCall (sp_merge_of K C) [] E0 (tCons ta tNil)) σ H (IsMg K A) :=
  gd_call (gA_v hr gA_nil) fun vs H2 s2 w2 p Q k => by
    subst p
    exact ⟨A, r, rfl, ok, R.sm0 s2, fun B Tx v H3 L s3 p3 => k _ H3 s3 Wm.nil ⟨B, Tx, L, p3⟩⟩
end
/-! least_reader, first_merge, is_turning -/
abbrev N_least_reader : List Str := ["reader"]
theorem sc_least_reader : FnScope N_least_reader ["reader"] (defScope s_least_reader) := ⟨rfl, rfl, rfl, by decide +kernel, rfl, by decide +kernel, by decide +kernel⟩
theorem ok_least_reader (F : Fun K "least_reader" "least_reader" s_least_reader f fd) (T : Txt K mg C) (Grequire_reader : Ok1 P w K mg base "require_reader" ["value"] 1 (sp_require_reader K C)) (Gleast_of : Ok1 P w K mg base "least_of" ["reader"] 8 (sp_least_of K C)) : FnOk P w K mg base CX0 9 f fd ["reader"] (sp_least_of K C) := by
  refine F.ok sc_least_reader (fun vs H Q E h => ?_) (fun cdv A outer s H vs Q E hr h => ?_)
  · obtain ⟨A, r, rfl, _⟩ := h
    rfl
  · obtain ⟨A, r, rfl, ok, R, q⟩ := h
    have nd := sc_least_reader.nd
    refine ⟨_, (pss_cons (ps_expr (pe_callP Grequire_reader hr (by rfl) (pa_cons (pv 0) pa_nil)))
      (pss_one (ps_ret (pe_callP Gleast_of hr (by rfl) (pa_cons (pv 0) pa_nil))))), ?_⟩
    refine rq_drop (gd_require (gv_var rfl) R) fun v H1 s1 p1 => ?_
    refine r_ret (gets_least ok (gv_var rfl) (R.sm0 s1)) fun v H2 s2 p2 => ?_
    obtain ⟨B, Tx, r', L, rfl, R2⟩ := p2
    exact q B Tx r' H2 L (s1.trans s2) R2
abbrev N_first_merge : List Str := ["reader"]
theorem sc_first_merge : FnScope N_first_merge ["reader"] (defScope s_first_merge) := ⟨rfl, rfl, rfl, by decide +kernel, rfl, by decide +kernel, by decide +kernel⟩
theorem ok_first_merge (F : Fun K "first_merge" "first_merge" s_first_merge f fd) (T : Txt K mg C) (Grequire_reader : Ok1 P w K mg base "require_reader" ["value"] 1 (sp_require_reader K C)) (Gmerge_of : Ok1 P w K mg base "merge_of" ["reader"] 9 (sp_merge_of K C)) : FnOk P w K mg base CX0 10 f fd ["reader"] (sp_merge_of K C) := by
  refine F.ok sc_first_merge (fun vs H Q E h => ?_) (fun cdv A outer s H vs Q E hr h => ?_)
  · obtain ⟨A, r, rfl, _⟩ := h
    rfl
  · obtain ⟨A, r, rfl, ok, R, q⟩ := h
    have nd := sc_first_merge.nd
    refine ⟨_, (pss_cons (ps_expr (pe_callP Grequire_reader hr (by rfl) (pa_cons (pv 0) pa_nil)))
      (pss_one (ps_ret (pe_callP Gmerge_of hr (by rfl) (pa_cons (pv 0) pa_nil))))), ?_⟩
    refine rq_drop (gd_require (gv_var rfl) R) fun v H1 s1 p1 => ?_
    refine r_ret (gets_merge ok (gv_var rfl) (R.sm0 s1)) fun v H2 s2 p2 => ?_
    obtain ⟨B, Tx, L, p2⟩ := p2
    exact q B Tx v H2 L (s1.trans s2) p2
abbrev N_is_turning : List Str := ["reader"]
theorem sc_is_turning : FnScope N_is_turning ["reader"] (defScope s_is_turning) := ⟨rfl, rfl, rfl, by decide +kernel, rfl, by decide +kernel, by decide +kernel⟩
def sp_is_turning (K : PySem.W.Frag) (C : Addr) : Sp := fun vs H Q _ => ∃ (A : Aut) (r : Addr), vs = [.ref r] ∧ A.Ok ∧ RdAt K C H r A ∧ ∀ B T v H', LeastOf A B T → Sm [] H H' → Dp K H' v (.bool (mergeOf B T).isNone) → Q v H'
theorem mD_none {H : Hp} {v : V} {x : Option (Nat × List Nat × List Nat)} (h : Dp K H v (mD x)) : decide (v = .non) = x.isNone := by
  cases x with
  | none => cases h; simp
  | some p =>
    obtain ⟨a, b, c⟩ := p
    obtain ⟨t, xs, rfl, _, _⟩ := dp_tup h
    simp
theorem ok_is_turning (F : Fun K "is_turning" "is_turning" s_is_turning f fd) (T : Txt K mg C) (Grequire_reader : Ok1 P w K mg base "require_reader" ["value"] 1 (sp_require_reader K C)) (Gmerge_of : Ok1 P w K mg base "merge_of" ["reader"] 9 (sp_merge_of K C)) : FnOk P w K mg base CX0 10 f fd ["reader"] (sp_is_turning K C) := by
  refine F.ok sc_is_turning (fun vs H Q E h => ?_) (fun cdv A outer s H vs Q E hr h => ?_)
  · obtain ⟨A, r, rfl, _⟩ := h
    rfl
  · obtain ⟨A, r, rfl, ok, R, q⟩ := h
    have nd := sc_is_turning.nd
    refine ⟨_, (pss_cons (ps_expr (pe_callP Grequire_reader hr (by rfl) (pa_cons (pv 0) pa_nil)))
      (pss_one (ps_ret (pe_cmpR op_isN (pe_callP Gmerge_of hr (by rfl) (pa_cons (pv 0) pa_nil)) pe_non (nomark _))))), ?_⟩
    refine rq_drop (gd_require (gv_var rfl) R) fun v H1 s1 p1 => ?_
    refine r_ret (P := fun v H' => ∃ B T, LeastOf A B T ∧ Dp K H' v (.bool (mergeOf B T).isNone)) (fun H3 s3 w3 Q3 k => gets_merge ok (gv_var rfl) (R.sm0 s1) H3 s3 w3 _ fun v H2 s2 w2 p2 => ?_) fun v H2 s2 p2 => ?_
    · obtain ⟨B, Tx, L, p2⟩ := p2
      refine ⟨rfl, k _ H2 s2 w2 ⟨B, Tx, L, ?_⟩⟩
      rw [mD_none p2]
      exact .bl _
    · obtain ⟨B, Tx, L, p2⟩ := p2
      exact q B Tx v H2 L (s1.trans s2) p2
/-! ~ -/
abbrev N_invert : List Str := ["self", "no", "state"]
theorem sc_invert : FnScope N_invert ["self"] (defScope s_invert) := ⟨rfl, rfl, rfl, by decide +kernel, rfl, by decide +kernel, by decide +kernel⟩
def sp_invert (K : PySem.W.Frag) (C : Addr) : Sp := fun vs H Q _ => ∃ (A : Aut) (r : Addr), vs = [.ref r] ∧ A.Ok ∧ RdAt K C H r A ∧ GivesR K C H Q (compl A)
theorem ok_invert (F : Fun K "__invert__" "Reader.__invert__" s_invert f fd) (T : Txt K mg C) (RM : RdMk P w K mg base C) (RL : RdLen P w K mg base C) : FnOk P w K mg base CX0 7 f fd ["self"] (sp_invert K C) := by
  refine F.ok sc_invert (fun vs H Q E h => ?_) (fun cdv A outer s H vs Q E hr h => ?_)
  · obtain ⟨A, r, rfl, _⟩ := h
    rfl
  · obtain ⟨A, r, rfl, ok, rd, q⟩ := h
    have nd := sc_invert.nd
    refine ⟨_, (pss_cons (ps_setLc (i := 1) (own := [("state", 2)]) rfl nd rfl rfl (sw_true rfl rfl rfl (by decide +kernel)) (pi_range1 (by rfl) T.range (pa_cons (pe_callB (lenR_ RL hr) (by rfl) T.len PySem.boot_len (pa_cons (pv 0) pa_nil)) pa_nil)) (blkOk_by (N := N_invert) (sc := defScope s_invert) (by decide +kernel)) (fun _ _ _ _ _ => (pg_name (i := 2) nd rfl (.inl rfl) (hf := .inr rfl))) (fun _ _ _ _ _ => (pts_one (pt_cmpR (notInSeq_ K) (pv 2) (pe_fldK (K := K) (pv 0)) (by rfl)))) (fun _ _ _ _ _ => (pv 2)))
      (pss_one (ps_ret (pe_mkR RM hr (pa_cons (pe_fldK (K := K) (pv 0)) (pa_cons (pe_fldK (K := K) (pv 0)) (pa_cons (pe_callTy (tupOf_ K) (by rfl) T.tuple (by decide +kernel) (pa_cons (pv 1) pa_nil)) pa_nil))))))), ?_⟩
    obtain ⟨d, ty, R⟩ := id rd
    have h60 := ok.n60
    refine rq_asg (Gets.is (gd_lcF1 (K := K) (n := A.n) (fun i => !A.acc i) (fun i => .int (i : Int)) (src_range1 (n := A.n) (ga_cons (gd_lenR ok (gv_var rfl) rd) ga_nil) (by omega)) (by omega) (fun i x H' hi s w hx => ?_) fun i x H' hi hf s w hx => gd_var rfl w hx) (show _ = rowL (compl A).yes from rfl)) fun v H1 s1 p1 => ?_
    · cases dp_int hx
      exact gt_test (K := K) (gd_op (gd_vi (n := (i : Int)) rfl) (gd_fld_y (gv_var rfl) (R.sm0 s) w T) rd_notInT)
    have R1 := R.sm0 s1
    refine r_ret (gets_make (A := compl A) (compl_ok ok) (GetsA.imp (gA_cons (gv_str (gd_fld_l (gv_var rfl) R1 Wm.nil T)) (fun _ _ _ _ _ p => p) (gA_cons (gv_fld_m (gv_var rfl) R1 Wm.nil T) (fun _ _ _ _ _ p => p) (gA_cons (P := fun v H1 => Dp K H1 v (rowD (compl A).yes)) (gd_tupleOf (ga_cons (K := K) (gd_var rfl Wm.nil p1) ga_nil)) (fun _ _ _ s w p => dp_sm0 s p) gA_nil))) fun vs H7 s7 w7 hvs => ?_)) fun v H7 s7 p7 => ?_
    · obtain ⟨v1, q1, rfl, rfl, v2, q2, rfl, rfl, v3, q3, rfl, h3, rfl⟩ := hvs
      obtain ⟨ty', xs, rfl, _, _⟩ := dp_tup h3
      exact ⟨d, ty', rfl, (R1.sm0 s7).mv, h3⟩
    · obtain ⟨r', rfl, hR⟩ := p7
      exact q r' H7 (s1.trans s7) hR
/-! is_merge -/
abbrev N_is_merge : List Str := ["reader", "value", "letter", "one", "other", "least", "first", "second"]
theorem sc_is_merge : FnScope N_is_merge ["reader", "value"] (defScope s_is_merge) := ⟨rfl, rfl, rfl, by decide +kernel, rfl, by decide +kernel, by decide +kernel⟩
/-- a value that is asked about: three texts, or something else -/
inductive MV (K : PySem.W.Frag) (H : Hp) : V → Option (List Nat × List Nat × List Nat) → Prop
  | three {v a b c} : Dp K H v (.tuple [.str (tx a), .str (tx b), .str (tx c)]) → a.length ≤ 10000 → b.length ≤ 10000 → c.length ≤ 10000 → MV K H v (some (a, b, c))
  | nots {v a b} : Dp K H v (.tuple [.str (tx a), .str (tx b), .none]) → a.length ≤ 10000 → b.length ≤ 10000 → MV K H v none
  | tup {v ds} : Dp K H v (.tuple ds) → ds.length ≤ 10 → ds.length ≠ 3 → MV K H v none
  | data {v d} : Dp K H v d → tyD d ≠ "tuple" → kitB (tyD d) "tuple" = some false → MV K H v none
  | dict {d kvs} : H d = some (.dK kvs) → MV K H (.ref d) none
theorem MV.sm {H H' : Hp} {v : V} {x : Option (List Nat × List Nat × List Nat)} (h : MV K H v x) (s : Sm [] H H') : MV K H' v x := by
  cases h with
  | three h a b c => exact .three (dp_sm0 s h) a b c
  | nots h a b => exact .nots (dp_sm0 s h) a b
  | tup h a b => exact .tup (dp_sm0 s h) a b
  | data h a b => exact .data (dp_sm0 s h) a b
  | dict h => exact .dict (s _ _ (by simp) h)
/-- what is_merge answers; A the reader, B its least reader -/
def due (A B : Aut) : Option (List Nat × List Nat × List Nat) → Bool
  | some ([c], u, v) => decide (c ∈ A.ls) && (inText A.ls (.str (tx u)) && inText A.ls (.str (tx v)) && isM B c u v)
  | _ => false
def sp_is_merge (K : PySem.W.Frag) (C : Addr) : Sp := fun vs H Q _ => ∃ (A : Aut) (r : Addr) (v : V) (x : Option (List Nat × List Nat × List Nat)), vs = [.ref r, v] ∧ A.Ok ∧ RdAt K C H r A ∧ MV K H v x ∧ ∀ B T v H', LeastOf A B T → Sm [] H H' → Dp K H' v (.bool (due A B x)) → Q v H'
end
end K29
namespace K29
open PySem PySem.Spec PyProof.Rows L2
section
variable {P : Program} {w : World} {K : PySem.W.Frag} {mg : Str → Option Value} {base : Heap} {f C : Addr} {fd : FuncData}
def sp_is_merge' (K : PySem.W.Frag) (C : Addr) : Sp := fun vs H Q _ => ∃ (A : Aut) (r : Addr) (v : V) (x : Option (List Nat × List Nat × List Nat)) (B : Aut) (Tx : List (List Nat)), vs = [.ref r, v] ∧ A.Ok ∧ RdAt K C H r A ∧ MV K H v x ∧ LeastOf A B Tx ∧ Gives K H Q (.bool (due A B x))
def due3 (A B : Aut) (a b : List Nat) (dc : PyData) (cc : List Nat) : Bool := match a with
  | [c] => decide (c ∈ A.ls) && (inText A.ls (.str (tx b)) && inText A.ls dc && isM B c b cc)
  | _ => false
theorem due_three {A B : Aut} {a b c : List Nat} : due A B (some (a, b, c)) = due3 A B a b (.str (tx c)) c := by
  unfold due due3
  cases a with
  | nil => rfl
  | cons x r => cases r <;> rfl
theorem due_nots {A B : Aut} {a b cc : List Nat} : due3 A B a b .none cc = false := by
  unfold due3
  cases a with
  | nil => rfl
  | cons x r => cases r with
    | nil => simp [inText]
    | cons y r => rfl
theorem inText_over {ls l : List Nat} (h : inText ls (.str (tx l)) = true) : Over ls l := by
  unfold inText at h
  rw [Bool.and_eq_true] at h
  have h2 := h.2
  rw [tx_list, List.all_eq_true] at h2
  exact fun c hc => of_decide_eq_true (h2 c hc)
section
variable {σ : L2.St} {H : Hp} {ta tb te : TE} {A : Aut} {r : Addr} {D : Ends} {u : TS}
theorem rq_asg3 {i j l : Nat} {d1 d2 d3 : PyData} (h : Gd K [] te σ H (.tuple [d1, d2, d3])) (k : ∀ v1 v2 v3 H1, Sm [] H H1 → Dp K H1 v1 d1 → Dp K H1 v2 d2 → Dp K H1 v3 d3 → u D (((σ.set i (some v1)).set j (some v2)).set l (some v3)) H1) : tSeq (tAsg te (gTup K 3 (gCons (gName i) (gCons (gName j) (gCons (gName l) gNil))))) u D σ H :=
  h.go (Q := fun x H1 => gTup K 3 (gCons (gName i) (gCons (gName j) (gCons (gName l) gNil))) x σ H1 (u D)) fun v H1 s1 p => by
    obtain ⟨a, xs, rfl, h1, h2⟩ := dp_tup p
    cases h2 with
    | cons p1 p2 => cases p2 with
      | cons p2 p3 => cases p3 with
        | cons p3 p4 =>
          cases p4
          exact ⟨a, _, rfl, h1, rfl, _, _, rfl, _, _, rfl, _, _, rfl, rfl, k _ _ _ H1 s1 p1 p2 p3⟩
theorem rq_par {i j : Nat} {t : TA} {d1 d2 : PyData} (h : Ga K [] t σ H [d1, d2]) (k : ∀ v1 v2 H1, Sm [] H H1 → Dp K H1 v1 d1 → Dp K H1 v2 d2 → u D ((σ.set i (some v1)).set j (some v2)) H1) : tSeq (tPar i j t) u D σ H :=
  h H (Sm.refl _ _) Wm.nil _ fun vs H1 s w p => by
    cases p with
    | cons p1 p2 => cases p2 with
      | cons p2 p3 =>
        cases p3
        exact ⟨_, _, rfl, k _ _ H1 s p1 p2⟩
theorem gd_within {ls : List Nat} {d : PyData} (ha : Gd K [] ta σ H (.str (tx ls))) (hb : Gd K [] tb σ H d) (hd : d = .none ∨ ∃ z : Str, d = .str z ∧ z.length ≤ 10000) : Gd K [] (tCall (sp_is_text_within K) [] E0 (tCons ta (tCons tb tNil))) σ H (.bool (inText ls d)) :=
  gd_call (ga_cons (K := K) ha (ga_cons hb ga_nil)) fun vs H1 s1 w1 p Q k => by
    cases p with
    | cons p1 p2 => cases p2 with
      | cons p2 p3 =>
        cases p3
        cases dp_str p1
        exact ⟨ls, _, d, rfl, p2, hd, fun v H2 s2 p4 => k v H2 s2 Wm.nil p4⟩
theorem gd_behind {q : Nat} {l : List Nat} {tc : TE} (ok : A.Ok) (hr : Gv [] ta σ H (.ref r)) (R : RdAt K C H r A) (hq : q < A.n) (hb : Gd K [] tb σ H (.int (q : Int))) (hc : Gd K [] tc σ H (.str (tx l))) (ho : Over A.ls l) : Gd K [] (tCall (sp_state_behind K C) [] E0 (tCons ta (tCons tb (tCons tc tNil)))) σ H (.int (A.run q l : Int)) := fun H1 s1 w1 Q k =>
  hr H1 s1 w1 _ fun v H2 s2 w2 p => hb H2 (s1.trans s2) w2 _ fun v2 H3 s3 w3 p3 => hc H3 ((s1.trans s2).trans s3) w3 _ fun v4 H4 s4 w4 p4 => by
    subst p
    cases dp_int p3
    cases dp_str p4
    exact ⟨A, r, q, l, rfl, ok, R.sm0 (((s1.trans s2).trans s3).trans s4), hq, ho, fun v H5 s5 p5 => k v H5 (((s2.trans s3).trans s4).trans s5) Wm.nil p5⟩
theorem gd_notIn1 {c : Nat} {l : List Nat} (ha : Gd K [] ta σ H (.str (tx [c]))) (hb : Gd K [] tb σ H (.str (tx l))) : Gd K [] (tOp (fun x y H Q => ∃ (c : Nat) (z : Str), x = V.str ⟨#[c]⟩ ∧ y = V.str z ∧ Q (.bl (!decide (c ∈ z.cps.toList))) H) ta tb) σ H (.bool (!decide (c ∈ l))) := gd_op ha hb fun x y H1 _ w hx hy Q q => by
  cases hx; cases hy
  refine ⟨c, tx l, rfl, rfl, ?_⟩
  rw [tx_list]
  exact q _ H1 (Sm.refl _ _) w (.bl _)
end
theorem MV.split {H : Hp} {v : V} {x : Option (List Nat × List Nat × List Nat)} (h : MV K H v x) :
    (∃ (a b : List Nat) (dc : PyData) (cc : List Nat), Dp K H v (.tuple [.str (tx a), .str (tx b), dc]) ∧ a.length ≤ 10000 ∧ b.length ≤ 10000 ∧ cc.length ≤ 10000 ∧ (dc = .none ∨ dc = .str (tx cc)) ∧ ∀ (B : Aut) {A : Aut}, due A B x = due3 A B a b dc cc) ∨
    (x = none ∧ ∀ σ : L2.St, σ[1]? = some (some v) → GetsT [] (tOr (tNot (tB (tCB (rIsi K) (tCons (tVar 1) (tCons (tC (.ty "tuple")) tNil))))) (tTest (tOp rNe (tCB (rLenSeq K) (tCons (tVar 1) tNil)) (tC (.int 3))))) σ H true) := by
  cases h with
  | @three _ a b c h1 h2 h3 h4 => exact .inl ⟨a, b, .str (tx c), c, h1, h2, h3, h4, .inr rfl, fun B A => due_three⟩
  | @nots _ a b h1 h2 h3 => exact .inl ⟨a, b, .none, [], h1, h2, h3, by simp, .inl rfl, fun B A => by rw [due_nots]; rfl⟩
  | @tup _ ds h1 h2 h3 => 
    refine .inr ⟨rfl, fun σ hσ => gt_or (a := false) (b := true) (gt_not (a := true) (gt_B (K := K) (gd_isi (gd_var hσ Wm.nil h1) kb_tt))) fun _ => GetsT.is (gt_test (K := K) (gd_op (gd_lenT (n := ds.length) (ga_cons (gd_var hσ Wm.nil h1) ga_nil) rfl) gd_i rd_neI)) ?_⟩
    rw [decide_eq_false (by omega)]; rfl
  | @data _ d h1 h2 h3 => exact .inr ⟨rfl, fun σ hσ => gt_or (a := true) (b := true) (gt_not (a := false) (gt_B (K := K) (gd_isi (gd_var hσ Wm.nil h1) h3))) fun h => by cases h⟩
  | @dict d kvs h1 =>
    refine .inr ⟨rfl, fun σ hσ => gt_or (a := true) (b := true) (gt_not (a := false) (gt_B (K := K) (gd_cb (PA := fun vs _ => vs = [.ref d, .ty "tuple"]) (gA_v (gv_var hσ) (gA_v gv_c gA_nil)) fun vs H1 s1 w1 p Q k => ?_))) fun h => by cases h⟩
    subst p
    exact ⟨.ref d, .ty "tuple", .type "dict", .type "tuple", false, rfl, .ty "tuple", .base (.dK (s1 _ _ (by simp) h1)), kit_ty kb_dt, k _ H1 (Sm.refl _ _) w1 (.bl false)⟩
theorem ok_is_merge (F : Fun K "is_merge" "is_merge" s_is_merge f fd) (T : Txt K mg C) (Grequire_reader : Ok1 P w K mg base "require_reader" ["value"] 1 (sp_require_reader K C)) (Gis_text_within : Ok1 P w K mg base "is_text_within" ["letters", "value"] 1 (sp_is_text_within K)) (Gstate_behind : Ok1 P w K mg base "state_behind" ["reader", "state", "text"] 1 (sp_state_behind K C)) (Gleast_of : Ok1 P w K mg base "least_of" ["reader"] 8 (sp_least_of K C)) : FnOk P w K mg base CX0 9 f fd ["reader", "value"] (sp_is_merge' K C) := by
  refine F.ok sc_is_merge (fun vs H Q E h => ?_) (fun cdv A outer s H vs Q E hr h => ?_)
  · obtain ⟨A, r, v, x, B, Tx, rfl, _⟩ := h
    rfl
  · obtain ⟨A, r, v, x, B, Tx, rfl, ok, R, hv, L, q⟩ := h
    have nd := sc_is_merge.nd
    have hu := hu_of hr
    refine ⟨_, (pss_cons (ps_expr (pe_callP Grequire_reader hr (by rfl) (pa_cons (pv 0) pa_nil)))
  (pss_cons (ps_if (PW.pt (pw_or (pt_not (pt_val (pe_callB (isi_ K) (by rfl) T.isinstance (by decide +kernel) (pa_cons (pv 1) (pa_cons (pe_ty (n := "tuple") (by rfl) T.tuple (by decide +kernel)) pa_nil))))) (pw_or1 (pt_cmpR op_ne (pe_callB (lenSeq_ K) (by rfl) T.len PySem.boot_len (pa_cons (pv 1) pa_nil)) pe_int (nomark _))))) 
    (pss_one (ps_ret pe_bl)) pss_nil)
  (pss_cons (ps_asg (pv 1) (pg_tup rfl (pgs_cons (pg_name (i := 2) nd rfl (.inl rfl)) (pgs_cons (pg_name (i := 3) nd rfl (.inl rfl)) (pgs_cons (pg_name (i := 4) nd rfl (.inl rfl)) pgs_nil)))))
  (pss_cons (ps_if (PW.pt (pw_or (pt_not (pt_val (pe_callB (isi_ K) (by rfl) T.isinstance (by decide +kernel) (pa_cons (pv 2) (pa_cons (pe_ty (n := "str") (by rfl) T.str (by decide +kernel)) pa_nil))))) (pw_or (pt_cmpR op_ne (pe_callB call_len_str (by rfl) T.len PySem.boot_len (pa_cons (pv 2) pa_nil)) pe_int (nomark _)) (pw_or1 (pt_cmpR op_notIn_sign (pv 2) (pe_fldK (K := K) (pv 0)) (by rfl)))))) 
    (pss_one (ps_ret pe_bl)) pss_nil)
  (pss_cons (ps_if (PW.pt (pw_or (pt_not (pt_val (pe_callP Gis_text_within hr (by rfl) (pa_cons (pe_fldK (K := K) (pv 0)) (pa_cons (pv 3) pa_nil))))) (pw_or1 (pt_not (pt_val (pe_callP Gis_text_within hr (by rfl) (pa_cons (pe_fldK (K := K) (pv 0)) (pa_cons (pv 4) pa_nil)))))))) 
    (pss_one (ps_ret pe_bl)) pss_nil)
  (pss_cons (ps_set (i := 5) nd rfl (.inl rfl) (pe_callP Gleast_of hr (by rfl) (pa_cons (pv 0) pa_nil)))
  (pss_cons (ps_par (i := 6) (j := 7) rfl nd rfl rfl (by decide) rfl rfl (pa_cons (pe_callP Gstate_behind hr (by rfl) (pa_cons (pv 5) (pa_cons pe_int (pa_cons (pv 3) pa_nil)))) (pa_cons (pe_callP Gstate_behind hr (by rfl) (pa_cons (pv 5) (pa_cons pe_int (pa_cons (pv 4) pa_nil)))) pa_nil)) (by rfl))
  (pss_one (ps_ret (pe_and (pe_cmpR op_ne (pv 6) (pv 7) (nomark _)) (pe_one (pe_cmpR op_eq (pe_ix (ixT_ K) (pe_dget hu (pe_fldK (K := K) (pv 5)) (pv 2) (fun _ _ => rfl)) (pv 6) (fun _ _ => rfl)) (pe_ix (ixT_ K) (pe_dget hu (pe_fldK (K := K) (pv 5)) (pv 2) (fun _ _ => rfl)) (pv 7) (fun _ _ => rfl)) (nomark _))))))))))))), ?_⟩
    refine rq_drop (gd_require (gv_var rfl) R) fun v0 H1 s1 p1 => ?_
    have hv1 := hv.sm s1
    rcases hv1.split with ⟨a, b, dc, cc, hd, ha, hb, hcc, hdc, hdue⟩ | ⟨hx, hearly⟩
    · rw [hdue B (A := A)] at q
      have hdc' : dc = .none ∨ ∃ z : Str, dc = .str z ∧ z.length ≤ 10000 := by
        rcases hdc with h | h
        · exact .inl h
        · exact .inr ⟨_, h, hcc⟩
      refine rq_not (gt_or (a := false) (b := false) (gt_not (a := true) (gt_B (K := K) (gd_isi (gd_var rfl Wm.nil hd) kb_tt))) fun _ => GetsT.is (gt_test (K := K) (gd_op (gd_lenT (n := 3) (ga_cons (gd_var rfl Wm.nil hd) ga_nil) rfl) gd_i rd_neI)) rfl) fun H2 s2 => ?_
      refine rq_asg3 (gd_var rfl Wm.nil (dp_sm0 s2 hd)) fun v2 v3 v4 H3 s3 p2 p3 p4 => ?_
      cases dp_str p2
      cases dp_str p3
      have R3 := R.sm0 ((s1.trans s2).trans s3)
      obtain ⟨d0, ty0, R30⟩ := id R3
      have s03 := (s1.trans s2).trans s3
      -- the letter
      have hlet : GetsT [] (tOr (tNot (tB (tCB (rIsi K) (tCons (tVar 2) (tCons (tC (.ty "str")) tNil))))) (tOr (tTest (tOp rNe (tCB (fun xs H Q => ∃ z, xs = [V.str z] ∧ z.length ≤ sizeLine ∧ Q (.int z.length) H) (tCons (tVar 2) tNil)) (tC (.int 1)))) (tTest (tOp (fun x y H Q => ∃ (c : Nat) (z : Str), x = V.str ⟨#[c]⟩ ∧ y = V.str z ∧ Q (.bl (!decide (c ∈ z.cps.toList))) H) (tVar 2) (tFld K (tVar 0) "own_letters")))))
          [some (.ref r), some v, some (.str (tx a)), some (.str (tx b)), some v4, none, none, none] H3 (match a with | [c] => !decide (c ∈ A.ls) | _ => true) := by
        refine GetsT.is (gt_or (a := false) (b := (match a with | [c] => !decide (c ∈ A.ls) | _ => true)) (gt_not (a := true) (gt_B (K := K) (gd_isi (gd_vs (n := tx a) rfl) kb_ss))) fun _ => ?_) (by simp)
        refine GetsT.is (gt_or (a := !decide ((a.length : Int) = 1)) (b := (match a with | [c] => !decide (c ∈ A.ls) | _ => true)) (gt_test (K := K) (gd_op (gd_lenStr (z := tx a) (gd_vs rfl) (by rw [tx_len]; omega)) gd_i (rd_neI (i := (a.length : Int)) (j := 1)))) fun h => ?_) ?_
        · have h1 : a.length = 1 := by have : (a.length : Int) = 1 := by simpa using h
                                       omega
          match a, h1 with
          | [c], _ => exact gt_test (K := K) (gd_notIn1 (gd_vs rfl) (gd_fld_l (gv_var rfl) R30 Wm.nil T))
        · match a with
          | [] => simp
          | [c] => simp
          | c :: e :: rr => simp
      match ha1 : a with
      | [] => exact rq_if hlet (fun _ H4 s4 => r_ret (K29.gd_b (K := K)) fun v H5 s5 p5 => q v H5 ((s03.trans s4).trans s5) p5) (fun h => by cases h)
      | c :: e :: rr => exact rq_if hlet (fun _ H4 s4 => r_ret (K29.gd_b (K := K)) fun v H5 s5 p5 => q v H5 ((s03.trans s4).trans s5) p5) (fun h => by cases h)
      | [c] =>
        by_cases hc : c ∈ A.ls
        · refine rq_not (GetsT.is hlet (by simp [hc])) fun H4 s4 => ?_
          have R4 := R30.sm0 s4
          have p44 := dp_sm0 s4 p4
          have s04 := s03.trans s4
          cases i12 : inText A.ls (.str (tx b)) && inText A.ls dc with
          | false =>
            refine rq_if (b := true) (GetsT.is (gt_or (a := !inText A.ls (.str (tx b))) (b := !inText A.ls dc) (gt_not (gt_B (K := K) (gd_within (gd_fld_l (gv_var rfl) R4 Wm.nil T) (gd_vs rfl) (.inr ⟨_, rfl, hb⟩)))) fun _ => gt_not (gt_B (K := K) (gd_within (gd_fld_l (gv_var rfl) R4 Wm.nil T) (gd_var rfl Wm.nil p44) hdc'))) (by
              rw [← Bool.not_and, i12]; rfl)) (fun _ H5 s5 => r_ret (K29.gd_b (K := K)) fun v H6 s6 p6 => q v H6 ((s04.trans s5).trans s6) ?_) (fun h => by cases h)
            have e : due3 A B [c] b dc cc = false := by
              unfold due3
              simp only [← Bool.and_assoc] at *
              rw [Bool.and_assoc (decide (c ∈ A.ls)), i12]
              simp
            rw [e]
            exact p6
          | true =>
            obtain ⟨i1, i2⟩ := Bool.and_eq_true_iff.mp i12
            have hdc2 : dc = .str (tx cc) := by
              rcases hdc with h | h
              · rw [h] at i2; simp [inText] at i2
              · exact h
            subst hdc2
            cases dp_str p4
            have o1 := inText_over i1
            have o2 := inText_over i2
            have edue : due3 A B [c] b (.str (tx cc)) cc = isM B c b cc := by
              show (decide (c ∈ A.ls) && (inText A.ls (.str (tx b)) && inText A.ls (.str (tx cc)) && isM B c b cc)) = _
              rw [decide_eq_true hc, i1, i2]
              simp
            rw [edue] at q
            refine rq_not (GetsT.is (gt_or (a := false) (b := false) (gt_not (a := true) (gt_B (K := K) (Gets.is (gd_within (d := .str (tx b)) (gd_fld_l (gv_var rfl) R4 Wm.nil T) (gd_vs rfl) (.inr ⟨_, rfl, hb⟩)) (by rw [i1])))) fun _ => gt_not (a := true) (gt_B (K := K) (Gets.is (gd_within (d := .str (tx cc)) (gd_fld_l (gv_var rfl) R4 Wm.nil T) (gd_vs rfl) hdc') (by rw [i2])))) rfl) fun H5 s5 => ?_
            have s05 := s04.trans s5
            refine rq_asg (gets_least ok (gv_var rfl) (R.sm0 s05)) fun v5 H6 s6 p6 => ?_
            obtain ⟨B', T', r5, L', rfl, R6⟩ := p6
            obtain ⟨rfl, rfl⟩ := L.one L'
            have okB := L.ok
            have hBl : B.ls = A.ls := L.ls_
            have l1 := run_lt okB (w := b) (by rw [hBl]; exact o1) okB.n1
            have l2 := run_lt okB (w := cc) (by rw [hBl]; exact o2) okB.n1
            obtain ⟨d6, ty6, R60⟩ := id R6
            refine rq_par (K := K) (ga_cons (gd_behind (q := 0) (l := b) okB (gv_var rfl) R6 okB.n1 gd_i (gd_vs rfl) (by rw [hBl]; exact o1)) (ga_cons (gd_behind (q := 0) (l := cc) okB (gv_var rfl) R6 okB.n1 gd_i (gd_vs rfl) (by rw [hBl]; exact o2)) ga_nil)) fun v6 v7 H7 s7 q1 q2 => ?_
            cases dp_int q1
            cases dp_int q2
            have R7 := R60.sm0 s7
            refine r_ret (Gets.is (gd_andV (K := K) (a := !decide ((B.run 0 b : Int) = (B.run 0 cc : Int))) (b := decide ((B.mv c (B.run 0 b) : Int) = (B.mv c (B.run 0 cc) : Int))) (gd_op (gd_vi rfl) (gd_vi rfl) rd_neI) fun _ => gd_op (gd_mv (K := K) (c := c) (i := B.run 0 b) okB (gv_var rfl) R7 Wm.nil T (gd_vs rfl) (by rw [hBl]; exact hc) (gd_vi rfl) l1) (gd_mv (K := K) (c := c) (i := B.run 0 cc) okB (gv_var rfl) R7 Wm.nil T (gd_vs rfl) (by rw [hBl]; exact hc) (gd_vi rfl) l2) rd_eqI) ?_) fun v H8 s8 p8 => q v H8 (((s05.trans s6).trans s7).trans s8) p8
            unfold isM
            congr 2
            · rw [← decide_not]
              exact decide_eq_decide.mpr (not_congr Int.ofNat_inj)
            · exact decide_eq_decide.mpr Int.ofNat_inj
        · refine rq_if (GetsT.is hlet (show _ = true by simp [hc])) (fun _ H4 s4 => r_ret (K29.gd_b (K := K)) fun v H5 s5 p5 => q v H5 ((s03.trans s4).trans s5) ?_) (fun h => by cases h)
          have e : due3 A B [c] b dc cc = false := by
            unfold due3
            simp [hc]
          rw [e]
          exact p5
    · subst hx
      refine rq_if (hearly _ rfl) (fun _ H2 s2 => r_ret (K29.gd_b (K := K)) fun v H3 s3 p3 => q v H3 ((s1.trans s2).trans s3) p3) (fun h => by cases h)
end
end K29
namespace K29
open PySem PySem.Spec PyProof.Rows L2

/-! ### the law's plain readers: signs, ways, good -/
def kS (s : Str) : Key := .inr s
def plF (ls : List Nat) (dw ty : Addr) : List (Key × V) := [(kS "signs", .str (tx ls)), (kS "ways", .ref dw), (kS "good", .ref ty)]
def lnF (ls : List Nat) (dw ty ll : Addr) : List (Key × V) := [(kS "signs", .str (tx ls)), (kS "ways", .ref dw), (kS "good", .ref ty), (kS "lines", .ref ll)]
structure PlAt (K : PySem.W.Frag) (H : Hp) (p : Addr) (A : Aut) (dw ty : Addr) : Prop where
  ob : H p = some (.dK (plF A.ls dw ty))
  mv : DictAt K H dw (movesD A)
  ys : Dp K H (.ref ty) (rowD A.yes)
/-- a lean one: its lines too -/
structure LnAt (K : PySem.W.Frag) (H : Hp) (p : Addr) (A : Aut) (T : List (List Nat)) (dw ty ll : Addr) : Prop where
  ob : H p = some (.dK (lnF A.ls dw ty ll))
  mv : DictAt K H dw (movesD A)
  ys : Dp K H (.ref ty) (rowD A.yes)
  ln : ∃ xs, H ll = some (.lst xs) ∧ DpAll K H xs (T.map fun w => PyData.str (tx w))
section
variable {K : PySem.W.Frag} {m : List Addr} {σ : L2.St} {H H' : Hp} {ta tb te tl td tk tv to : TE} {t : TA} {D : Ends} {p dw ty ll : Addr} {A : Aut} {T : List (List Nat)}
theorem PlAt.sm (R : PlAt K H p A dw ty) (s : Sm m H H') (w : Wm m H) : PlAt K H' p A dw ty :=
  ⟨s.at w R.ob (fun _ e => by cases e), R.mv.sm s w (.inr (noL_moves A)), dp_sm s w (.inr (noL_row _)) R.ys⟩
theorem PlAt.sm0 (R : PlAt K H p A dw ty) (s : Sm [] H H') : PlAt K H' p A dw ty := R.sm s Wm.nil
theorem LnAt.sm0 (R : LnAt K H p A T dw ty ll) (s : Sm [] H H') : LnAt K H' p A T dw ty ll := by
  obtain ⟨xs, h1, h2⟩ := R.ln
  exact ⟨s _ _ (by simp) R.ob, R.mv.sm s Wm.nil (.inl rfl), dp_sm0 s R.ys, xs, s _ _ (by simp) h1, dps_sm s Wm.nil (.inl rfl) h2⟩
theorem gv_key {kvs : List (Key × V)} {v : V} {x : Str} (hp : Gv m te σ H (.ref p)) (w : Wm m H) (ob : H p = some (.dK kvs)) (e : valV kvs (kS x) = some v) : Gv m (tDGet te (tC (.str x))) σ H v :=
  gv_dget (K := default) (k := kS x) hp gd_s ob w e
theorem k_sw : ¬ kS "signs" = kS "ways" := by decide +kernel
theorem k_sg : ¬ kS "signs" = kS "good" := by decide +kernel
theorem k_wg : ¬ kS "ways" = kS "good" := by decide +kernel
theorem k_sl : ¬ kS "signs" = kS "lines" := by decide +kernel
theorem k_wl : ¬ kS "ways" = kS "lines" := by decide +kernel
theorem k_gl : ¬ kS "good" = kS "lines" := by decide +kernel
theorem pl_signs {ls : List Nat} : valV (plF ls dw ty) (kS "signs") = some (.str (tx ls)) := valV_pos rfl
theorem pl_ways {ls : List Nat} : valV (plF ls dw ty) (kS "ways") = some (.ref dw) := by
  unfold plF
  rw [valV_neg k_sw, valV_pos rfl]
theorem pl_good {ls : List Nat} : valV (plF ls dw ty) (kS "good") = some (.ref ty) := by
  unfold plF
  rw [valV_neg k_sg, valV_neg k_wg, valV_pos rfl]
theorem ln_signs {ls : List Nat} : valV (lnF ls dw ty ll) (kS "signs") = some (.str (tx ls)) := valV_pos rfl
theorem ln_ways {ls : List Nat} : valV (lnF ls dw ty ll) (kS "ways") = some (.ref dw) := by
  unfold lnF
  rw [valV_neg k_sw, valV_pos rfl]
theorem ln_lines {ls : List Nat} : valV (lnF ls dw ty ll) (kS "lines") = some (.ref ll) := by
  unfold lnF
  rw [valV_neg k_sl, valV_neg k_wl, valV_neg k_gl, valV_pos rfl]
theorem gd_signs (hp : Gv m te σ H (.ref p)) (R : PlAt K H p A dw ty) (w : Wm m H) : Gd K m (tDGet te (tC (.str "signs"))) σ H (.str (tx A.ls)) := gd_of (gv_key hp w R.ob pl_signs) fun _ _ _ => .str _
theorem gd_good (hp : Gv m te σ H (.ref p)) (R : PlAt K H p A dw ty) (w : Wm m H) : Gd K m (tDGet te (tC (.str "good"))) σ H (rowD A.yes) := gd_of (gv_key hp w R.ob pl_good) fun H1 s _ => dp_sm s w (.inr (noL_row _)) R.ys
theorem gv_ways (hp : Gv m te σ H (.ref p)) (R : PlAt K H p A dw ty) (w : Wm m H) : Gv m (tDGet te (tC (.str "ways"))) σ H (.ref dw) := gv_key hp w R.ob pl_ways
theorem gd_wrow {c : Nat} (hp : Gv m te σ H (.ref p)) (R : PlAt K H p A dw ty) (w : Wm m H) (hc : Gd K m tb σ H (.str (tx [c]))) (h : c ∈ A.ls) : Gd K m (tDGet (tDGet te (tC (.str "ways"))) tb) σ H (rowD (A.row c)) :=
  gd_dget (k := ck c) (gv_ways hp R w) hc R.mv w (.inr (noL_moves A)) (movesD_look h)
theorem gd_wmv {c i : Nat} (ok : A.Ok) (hp : Gv m te σ H (.ref p)) (R : PlAt K H p A dw ty) (w : Wm m H) (hc : Gd K m tb σ H (.str (tx [c]))) (h : c ∈ A.ls) (hi : Gd K m ta σ H (.int (i : Int))) (hin : i < A.n) :
    Gd K m (tOp (rIxT K) (tDGet (tDGet te (tC (.str "ways"))) tb) ta) σ H (.int (A.mv c i : Int)) :=
  gd_ixT (n := i) (gd_wrow hp R w hc h) hi (rowD_get (row_get ok h hin)) (.inr (noL_row _))
/-! lists of places and texts -/
def pD (p : Nat × List Nat) : PyData := .tuple [.int (p.1 : Int), .str (tx p.2)]
theorem noL_p (p : Nat × List Nat) : noL (pD p) = true := rfl
def PL (K : PySem.W.Frag) (H : Hp) (a : Addr) (L : Lst) : Prop := ∃ xs, H a = some (.lst xs) ∧ DpAll K H xs (L.map pD)
theorem noLs_p (L : Lst) : noLs (L.map pD) = true := noLs_map fun p _ => noL_p p
theorem PL.sm0 {a : Addr} {L : Lst} (h : PL K H a L) (s : Sm [] H H') : PL K H' a L := by
  obtain ⟨xs, h1, h2⟩ := h
  exact ⟨xs, s _ _ (by simp) h1, dps_sm s Wm.nil (.inl rfl) h2⟩
theorem PL.updL {a b : Addr} {L : Lst} {xs : List V} {o : HO} (h : PL K H a L) (hb : H b = some (.lst xs)) (hne : a ≠ b) : PL K (upd H b o) a L := by
  obtain ⟨ys, h1, h2⟩ := h
  exact ⟨ys, by rw [upd_ne hne]; exact h1, dps_upd (noLs_p L) hb h2⟩
theorem PL.updK {a b : Addr} {L : Lst} {kvs : List (Key × V)} {o : HO} (h : PL K H a L) (hb : H b = some (.dK kvs)) : PL K (upd H b o) a L := by
  obtain ⟨ys, h1, h2⟩ := h
  exact ⟨ys, by rw [upd_ne (ne_of h1 hb (by intro e; cases e))]; exact h1, dps_updK (noLs_p L) hb h2⟩
theorem PL.dp {a : Addr} {L : Lst} (h : PL K H a L) : Dp K H (.ref a) (.list (L.map pD)) := by
  obtain ⟨ys, h1, h2⟩ := h
  exact .lst (SqL.of h1) h2
theorem strOk_codes {l : List Nat} (h : ∀ c ∈ l, c < 1000) : PyData.strOk (tx l) = true := by
  unfold PyData.strOk tx
  rw [Array.all_eq_true]
  intro i hi
  have hi' : i < l.length := by simpa using hi
  have := h l[i] (List.getElem_mem hi')
  simp
  omega
theorem strOk_over {A : Aut} (ok : A.Ok) {l : List Nat} (h : Over A.ls l) : PyData.strOk (tx l) = true := strOk_codes fun c hc => by
  have := ok.cod c (h c hc)
  omega
theorem lay_pairs : ∀ {L : Lst}, (∀ p ∈ L, PyData.strOk (tx p.2) = true) → PyData.canLayAll0 (L.map pD) = true ∧ PyData.depthAll (L.map pD) ≤ 1
  | [], _ => ⟨rfl, Nat.zero_le _⟩
  | a :: L, h => by
    obtain ⟨h1, h2⟩ := lay_pairs (L := L) fun p hp => h p (List.mem_cons_of_mem _ hp)
    have h3 := h a List.mem_cons_self
    rw [List.map_cons]
    refine ⟨?_, ?_⟩
    · simp [PyData.canLayAll0, PyData.canLay0, pD, h3, h1]
    · simp only [PyData.depthAll, PyData.depth, pD]
      omega
theorem shaped_pairs {L : Lst} (h : ∀ p ∈ L, PyData.strOk (tx p.2) = true) : SeqAt.shaped (.list (L.map pD)) = true := by
  obtain ⟨h1, h2⟩ := lay_pairs h
  unfold SeqAt.shaped
  rw [Bool.and_eq_true]
  refine ⟨by simpa [PyData.canLay0] using h1, decide_eq_true ?_⟩
  simp only [PyData.depth]
  omega
theorem valV_in : ∀ {kvs : List (Key × V)} {k : Key}, k ∈ kvs.map (fun x : Key × V => x.1) → (valV kvs k).isSome = true
  | [], k, h => by simp at h
  | (a, v) :: r, k, h => by
    by_cases e : a = k
    · rw [valV_pos e]; rfl
    · rw [valV_neg e]
      rw [List.map_cons] at h
      rcases List.mem_cons.mp h with h | h
      · exact absurd h.symm e
      · exact valV_in h
theorem valV_out : ∀ {kvs : List (Key × V)} {k : Key}, k ∉ kvs.map (fun x : Key × V => x.1) → valV kvs k = none
  | [], _, _ => rfl
  | (a, v) :: r, k, h => by
    rw [List.map_cons, List.mem_cons, not_or] at h
    rw [valV_neg (fun z => h.1 z.symm)]
    exact valV_out h.2
/-- a dict of these int keys -/
def SeenAt (H : Hp) (a : Addr) (l : List Nat) : Prop := ∃ es, H a = some (.dK es) ∧ es.map (fun x : Key × V => x.1) = l.map fun q : Nat => (Sum.inl (q : Int) : Key)
theorem seen_mem {l : List Nat} {q : Nat} : (Sum.inl (q : Int) : Key) ∈ (l.map fun q : Nat => (Sum.inl (q : Int) : Key)) ↔ q ∈ l := by
  refine ⟨fun h => ?_, fun h => List.mem_map.mpr ⟨q, h, rfl⟩⟩
  obtain ⟨x, hx, e⟩ := List.mem_map.mp h
  have := Sum.inl.inj e
  have e' : x = q := by omega
  exact e' ▸ hx
end
theorem gt_notSeen {σ : L2.St} {H : Hp} {i j q : Nat} {a : Addr} {l : List Nat} (h : SeenAt H a l) (hi : σ[i]? = some (some (.int (q : Int)))) (hj : σ[j]? = some (some (.ref a))) : GetsT [] (tB (tDNotIn (tVar i) (tVar j))) σ H (!decide (q ∈ l)) := fun H1 s1 w1 Q k => by
  obtain ⟨es, h1, h2⟩ := h
  refine ⟨.int (q : Int), hi, .ref a, hj, a, _, rfl, DGet.k (k := .inl (q : Int)) (s1 _ _ (by simp) h1), _, rfl, ?_⟩
  have e : (valV es (.inl (q : Int))).isSome = decide (q ∈ l) := by
    by_cases hq : q ∈ l
    · rw [valV_in (by rw [h2]; exact seen_mem.mpr hq), decide_eq_true hq]
    · rw [valV_out (by rw [h2]; exact fun hm => hq (seen_mem.mp hm)), decide_eq_false hq]; rfl
  rw [e]
  exact k H1 (Sm.refl _ _) Wm.nil
section
variable {P : Program} {w : World} {K : PySem.W.Frag} {mg : Str → Option Value} {base : Heap} {f C : Addr} {fd : FuncData}
abbrev N__law_first_lines : List Str := ["_law_plain", "_law_found", "_law_seen", "_law_layer", "_law_longer", "_law_state", "_law_line_here", "_law_sign", "_law_later"]
theorem sc__law_first_lines : FnScope N__law_first_lines ["_law_plain"] (defScope s__law_first_lines) := ⟨rfl, rfl, rfl, by decide +kernel, rfl, by decide +kernel, by decide +kernel⟩
def sp_first_lines (K : PySem.W.Frag) : Sp := fun vs H Q _ => ∃ (A : Aut) (p dw ty : Addr), vs = [.ref p] ∧ A.Ok ∧ PlAt K H p A dw ty ∧ Gives K H Q (.list ((A.bfs 0).map pD))
theorem ok_first_lines (F : Fun K "_law_first_lines" "_law_first_lines" s__law_first_lines f fd) (T : Txt K mg C) : FnOk P w K mg base CX0 1 f fd ["_law_plain"] (sp_first_lines K) := by
  refine F.ok sc__law_first_lines (fun vs H Q E h => ?_) (fun cdv A outer s H vs Q E hr h => ?_)
  · obtain ⟨A, p, dw, ty, rfl, _⟩ := h
    rfl
  · obtain ⟨B, p, dw, ty, rfl, ok, R, q⟩ := h
    have nd := sc__law_first_lines.nd
    have hu := hu_of hr
    refine ⟨_, (pss_cons (ps_par (i := 1) (j := 2) rfl nd rfl rfl (by decide) rfl rfl (pa_cons (pe_lst (pa_cons (pe_tup (pa_cons pe_int (pa_cons pe_str pa_nil))) pa_nil)) (pa_cons (pe_disp (pps_cons pe_int pe_bl pps_nil) (by rfl) (by rfl) (fun z => by cases z) (by decide)) pa_nil)) (by rfl))
  (pss_cons (ps_set (i := 3) nd rfl (.inl rfl) (pe_callTy (lstOf_ K) (by rfl) T.list (by decide +kernel) (pa_cons (pv 1) pa_nil)))
  (pss_cons (ps_while PassesOwn.never (pt_cmpR (neD_ K hr.units) (pv 3) (pe_lst pa_nil) (nomark _)) 
    (pss_cons (ps_set (i := 4) nd rfl (.inl rfl) (pe_lst pa_nil))
    (pss_cons (ps_for PassesOwn.never rfl (pi_listK (K := K) (pv 3)) (pg_tup rfl (pgs_cons (pg_name (i := 5) nd rfl (.inl rfl)) (pgs_cons (pg_name (i := 6) nd rfl (.inl rfl)) pgs_nil))) 
      (pss_one (ps_for PassesOwn.never rfl (pi_str (pe_dget hu (pv 0) pe_str (fun _ _ => rfl))) (pg_name (i := 7) nd rfl (.inl rfl)) 
        (pss_cons (ps_set (i := 8) nd rfl (.inl rfl) (pe_ix (ixT_ K) (pe_dget hu (pe_dget hu (pv 0) pe_str (fun _ _ => rfl)) (pv 7) (fun _ _ => rfl)) (pv 5) (fun _ _ => rfl)))
        (pss_one (ps_if (pt_cmp (pc_dnotin hu (pv 8) (pv 2))) 
          (pss_cons (ps_dput hu (pv 2) (pv 8) pe_bl rfl)
          (pss_one (ps_expr (pe_lmK (K := K) PySem.F.slot_list_append PySem.F.type_list_append mt_append (pv 4) (pa_cons (pe_tup (pa_cons (pv 8) (pa_cons (pe_op op_add_str (pv 6) (pv 7)) pa_nil))) pa_nil))))) pss_nil))))))
    (pss_one (ps_par (i := 1) (j := 3) rfl nd rfl rfl (by decide) rfl rfl (pa_cons (pe_op op_cat (pv 1) (pv 4)) (pa_cons (pe_callTy (lstOf_ K) (by rfl) T.list (by decide +kernel) (pa_cons (pv 4) pa_nil)) pa_nil)) (by rfl))))))
  (pss_one (ps_ret (pv 1)))))), ?_⟩
    have h60 := ok.n60
    have hl3 := ok.l3
    have hs0 := ok.n1
    have hlen : ∀ k, (B.bfsAt 0 k).length ≤ B.n := fun k => bfsAt_len ok hs0 k
    have hsh : ∀ k, ∀ p ∈ B.bfsAt 0 k, p.2.length ≤ k := bfsAt_short
    refine ⟨show 2 ≤ sizeLine by decide, fun pa hpa => ⟨show 1 ≤ sizeLine by decide, fun fo hfo => fun sd hsd => ?_⟩⟩
    refine ⟨upd_same, [(.inl 0, .bl true)], rfl, by decide, ⟨_, _, rfl, ?_⟩⟩
    have hne1 : pa ≠ fo := fun e => by subst e; rw [upd_same] at hfo; cases hfo
    have hne2 : fo ≠ sd := fun e => by subst e; rw [upd_same] at hsd; cases hsd
    have s0 : Sm [] H (upd (upd H pa (.tup [.int 0, .str ""])) fo (.lst [.ref pa])) := (Sm.new hpa).trans (Sm.new hfo)
    have hsd0 : H sd = none := s0.free Wm.nil Wm.nil hsd
    have s1 : Sm [] (upd (upd H pa (.tup [.int 0, .str ""])) fo (.lst [.ref pa])) (upd (upd (upd (upd H pa (.tup [.int 0, .str ""])) fo (.lst [.ref pa])) sd (.dK [])) sd (.dK (mergeK [] [((.inl 0 : Key), .bl true)]))) := (Sm.new hsd).mut hsd
    have hfo0 : PL K (upd (upd H pa (.tup [.int 0, .str ""])) fo (.lst [.ref pa])) fo (B.bfsAt 0 0) := ⟨[.ref pa], upd_same, .cons (.tup (SqT.of (by rw [upd_ne hne1]; exact upd_same)) (.cons (.int _) (.cons (.str _) .nil))) .nil⟩
    have hsd1 : SeenAt (upd (upd (upd (upd H pa (.tup [.int 0, .str ""])) fo (.lst [.ref pa])) sd (.dK [])) sd (.dK (mergeK [] [((.inl 0 : Key), .bl true)]))) sd ((B.bfsAt 0 0).map (·.1)) := ⟨_, upd_same, rfl⟩
    have s01 := s0.trans s1
    have hfo1 := hfo0.sm0 s1
    generalize (upd (upd (upd (upd H pa (.tup [.int 0, .str ""])) fo (.lst [.ref pa])) sd (.dK [])) sd (.dK (mergeK [] [((.inl 0 : Key), .bl true)]))) = H1 at *
    dsimp only
    refine rq_asg (P := fun v H' => ∃ la, v = .ref la ∧ PL K H' la (B.bfsAt 0 0)) (fun H2 s2 w2 Q k => ?_) fun v2 H2 s2 p2 => ?_
    · obtain ⟨xs, h1, h2⟩ := hfo1.sm0 s2
      exact ⟨.ref fo, rfl, fo, xs, rfl, .inl (SqL.of h1), fun l hl => k _ _ (Sm.new hl) Wm.nil ⟨l, rfl, xs, upd_same, dps_sm (Sm.new (m := []) hl) Wm.nil (.inl rfl) h2⟩⟩
    obtain ⟨la, rfl, hla⟩ := p2
    refine rq_while (fun k' σ' H' => ∃ (k : Nat) (fo la : Addr) (w4 w5 w6 w7 w8 : Option V), k' = 100 - k ∧ k ≤ B.n ∧ Sm [] H H' ∧ SeenAt H' sd ((B.bfsAt 0 k).map (·.1)) ∧ PL K H' fo (B.bfsAt 0 k) ∧ PL K H' la ((B.bfsAt 0 k).drop k) ∧ σ' = [some (.ref p), some (.ref fo), some (.ref sd), some (.ref la), w4, w5, w6, w7, w8])
      100 ⟨0, fo, la, none, none, none, none, none, rfl, Nat.zero_le _, s01.trans s2, ?_, hfo1.sm0 s2, hla, rfl⟩ fun k' σ' H' hW => ?_
    · obtain ⟨es, h1, h2⟩ := hsd1
      exact ⟨es, s2 _ _ (by simp) h1, h2⟩
    obtain ⟨k, fo, la, w4, w5, w6, w7, w8, rfl, hk, s3, hS, hF, hL, rfl⟩ := hW
    have hlk := hlen k
    have elay : ∀ {H3 : Hp}, PL K H3 la ((B.bfsAt 0 k).drop k) → Dp K H3 (.ref la) (.list (((B.bfsAt 0 k).drop k).map pD)) := fun h => h.dp
    have hsz : ((B.bfsAt 0 k).drop k).length ≤ 60 := by rw [List.length_drop]; omega
    refine ⟨!PyData.eqv (.list (((B.bfsAt 0 k).drop k).map pD)) (.list []), gt_test (K := K) (gd_neD (gd_var rfl Wm.nil hL.dp) (gd_lst ga_nil (show 0 ≤ 100000 by omega)) ?_ rfl), fun hlt H3 s4 N hN => ?_, fun hge H3 s4 => ?_⟩
    · exact shaped_pairs fun z hz => strOk_over ok ((bfsAt_ok ok hs0 k).over z (List.mem_of_mem_drop hz))
    · have hlt' : k < (B.bfsAt 0 k).length := by
        refine Nat.lt_of_not_le fun hle => ?_
        rw [List.drop_eq_nil_of_le hle] at hlt
        simp [PyData.eqv, PyData.eqvAll] at hlt
      have hkn : k < B.n := by omega
      -- longer = []
      refine ⟨show 0 ≤ sizeLine by decide, fun lo hlo => ?_⟩
      have s5 : Sm [] H3 (upd H3 lo (.lst [])) := Sm.new hlo
      have hS3 : SeenAt H3 sd ((B.bfsAt 0 k).map (·.1)) := by
        obtain ⟨es, h1, h2⟩ := hS
        exact ⟨es, s4 _ _ (by simp) h1, h2⟩
      have hF3 := hF.sm0 s4
      have hL3 := hL.sm0 s4
      have hlo_fo : fo ≠ lo := fun e => by subst e; obtain ⟨_, h, _⟩ := hF3; rw [h] at hlo; cases hlo
      have hlo_la : la ≠ lo := fun e => by subst e; obtain ⟨_, h, _⟩ := hL3; rw [h] at hlo; cases hlo
      have hlo_sd : sd ≠ lo := fun e => by subst e; obtain ⟨_, h, _⟩ := hS3; rw [h] at hlo; cases hlo
      have hlo0 : H lo = none := (s3.trans s4).free Wm.nil Wm.nil hlo
      obtain ⟨xl, hl1, hl2⟩ := hL3.sm0 s5
      have hxl : xl.length = ((B.bfsAt 0 k).drop k).length := by rw [dps_len hl2, List.length_map]
      -- what stands while the layer is walked
      let Iv : Lst → Hp → Prop := fun M H' => Sm [] H H' ∧ SeenAt H' sd ((B.bfsAt 0 k ++ M).map (·.1)) ∧ PL K H' fo (B.bfsAt 0 k) ∧ (H' la = some (.lst xl) ∧ DpAll K H' xl (((B.bfsAt 0 k).drop k).map pD)) ∧ PL K H' lo M
      have stI : ∀ {M H' H''}, Iv M H' → Sm [] H' H'' → Iv M H'' := fun {M H' H''} h s => by
        obtain ⟨h1, ⟨es, h2, h3⟩, h4, h5, h6⟩ := h
        exact ⟨h1.trans s, ⟨es, s _ _ (by simp) h2, h3⟩, h4.sm0 s, ⟨s _ _ (by simp) h5.1, dps_sm s Wm.nil (.inl rfl) h5.2⟩, h6.sm0 s⟩
      refine ⟨.ref la, rfl, la, rfl, ⟨xl, SqL.of hl1⟩, ?_⟩
      refine for_it (walk_list (K := K) (a := la) (xs := xl)) (fun i σ' H' => ∃ (M : Lst) (w5 w6 w7 w8 : Option V), B.bfsAt 0 (k + i) = B.bfsAt 0 k ++ M ∧ Iv M H' ∧ σ' = [some (.ref p), some (.ref fo), some (.ref sd), some (.ref la), some (.ref lo), w5, w6, w7, w8])
        ⟨[], w5, w6, w7, w8, by simp, ⟨(s3.trans s4).trans s5, ?_, hF3.sm0 s5, ⟨hl1, hl2⟩, ⟨[], upd_same, .nil⟩⟩, rfl⟩ (fun i σ' H' _ h => ?_) (fun i x σ' H' H'' hi h y => ?_) fun σ' H' h => ?_
      · obtain ⟨es, h1, h2⟩ := hS3
        exact ⟨es, s5 _ _ (by simp) h1, by simpa using h2⟩
      · obtain ⟨M, _, _, _, _, _, hI, _⟩ := h
        exact SqL.of hI.2.2.2.1.1
      · obtain ⟨M, w5, w6, w7, w8, hM, hI, rfl⟩ := h
        obtain ⟨rfl, y⟩ := y
        rw [hxl] at hi
        have hki : k + i < (B.bfsAt 0 k).length := by rw [List.length_drop] at hi; omega
        obtain ⟨pq, hpq⟩ : ∃ pq, (B.bfsAt 0 k)[k + i]? = some pq := ⟨_, List.getElem?_eq_getElem hki⟩
        have hpm := List.mem_of_getElem? hpq
        have hpl : pq.1 < B.n := (bfsAt_ok ok hs0 k).lt pq hpm
        have hpsh := hsh k pq hpm
        have hat : (B.bfsAt 0 (k + i))[k + i]? = some pq := by rw [hM, List.getElem?_append_left hki]; exact hpq
        obtain ⟨v', h3, h4⟩ := dps_get hI.2.2.2.1.2 (show (((B.bfsAt 0 k).drop k).map pD)[i]? = some (pD pq) by rw [List.getElem?_map, List.getElem?_drop, hpq]; rfl)
        have y' : xl[i]? = some x := y
        rw [y'] at h3
        cases h3
        obtain ⟨ta, ts, rfl, hts, hds⟩ := dp_tup h4
        cases hds with
        | cons q1 q2 => cases q2 with
          | cons q2 q3 =>
            cases q3
            cases dp_int q1
            cases dp_str q2
            refine ⟨ta, _, rfl, hts, rfl, _, _, rfl, _, _, rfl, rfl, ?_⟩
            have RI : PlAt K H'' p B dw ty := R.sm0 hI.1
            refine r_forStr (K := K) (l := B.ls) (gd_signs (gv_var rfl) RI Wm.nil) (fun j σ' H' => ∃ (M : Lst) (w7 w8 : Option V), (B.ls.take j).foldl (B.push pq.1 pq.2) (B.bfsAt 0 (k + i)) = B.bfsAt 0 k ++ M ∧ Iv M H' ∧ σ' = [some (.ref p), some (.ref fo), some (.ref sd), some (.ref la), some (.ref lo), some (.int (pq.1 : Int)), some (.str (tx pq.2)), w7, w8])
              (fun H6 s6 => ⟨M, w7, w8, hM, stI hI s6, rfl⟩) (fun j σ' H6 N' hj h kk => ?_) fun σ' H6 h => ?_
            · obtain ⟨M, w7, w8, hM, hI, rfl⟩ := h
              have RI : PlAt K H6 p B dw ty := R.sm0 hI.1
              refine rq_asg (gd_wmv (K := K) (c := B.ls.getD j 0) (i := pq.1) ok (gv_var rfl) RI Wm.nil (gd_vs rfl) (ls_getD hj) (gd_vi rfl) hpl) fun v7 H7 s7 p7 => ?_
              cases dp_int p7
              have hI7 := stI hI s7
              have e1 := fold_take (B.push pq.1 pq.2) (B.bfsAt 0 (k + i)) B.ls hj
              have hJl : ((B.ls.take j).foldl (B.push pq.1 pq.2) (B.bfsAt 0 (k + i))).length ≤ 63 := by
                have h1 := fold_push_len B pq.1 pq.2 (B.ls.take j) (B.bfsAt 0 (k + i))
                have h2 := hlen (k + i)
                have h3 : (B.ls.take j).length ≤ B.ls.length := by rw [List.length_take]; omega
                omega
              rw [hM] at e1 hJl
              refine r_if (gt_notSeen hI7.2.1 rfl rfl) (fun h H8 s8 => ?_) fun h H8 s8 => ?_
              · have hnm : B.mv (B.ls.getD j 0) pq.1 ∉ (B.bfsAt 0 k ++ M).map (·.1) := by simpa using h
                obtain ⟨g1, ⟨es, g2, g3⟩, g4, ⟨g5, g5'⟩, g6⟩ := stI hI7 s8
                have hesl : es.length = (B.bfsAt 0 k ++ M).length := by have := congrArg List.length g3; simpa using this
                have hnone : valV es (.inl (B.mv (B.ls.getD j 0) pq.1 : Int)) = none := valV_out (by rw [g3]; exact fun hm => hnm (seen_mem.mp hm))
                refine ⟨.ref sd, rfl, .int (B.mv (B.ls.getD j 0) pq.1 : Int), rfl, sd, _, rfl, DPut.k (k := .inl (B.mv (B.ls.getD j 0) pq.1 : Int)) g2 (Nat.lt_of_le_of_lt (m := 63) (by omega) (by decide)), ?_⟩
                rw [putK_new _ hnone]
                have hfo9 := g4.updK (o := .dK (es ++ [((.inl (B.mv (B.ls.getD j 0) pq.1 : Int) : Key), .bl true)])) g2
                have hlo9 := g6.updK (o := .dK (es ++ [((.inl (B.mv (B.ls.getD j 0) pq.1 : Int) : Key), .bl true)])) g2
                have hla9 : (upd H8 sd (.dK (es ++ [((.inl (B.mv (B.ls.getD j 0) pq.1 : Int) : Key), .bl true)]))) la = some (.lst xl) := by rw [upd_ne (ne_of g5 g2 (by intro e; cases e))]; exact g5
                have hla9' := dps_updK (o := .dK (es ++ [((.inl (B.mv (B.ls.getD j 0) pq.1 : Int) : Key), .bl true)])) (noLs_p _) g2 g5'
                have g19 : Sm [] H (upd H8 sd (.dK (es ++ [((.inl (B.mv (B.ls.getD j 0) pq.1 : Int) : Key), .bl true)]))) := g1.mut hsd0
                have hsd9 : SeenAt (upd H8 sd (.dK (es ++ [((.inl (B.mv (B.ls.getD j 0) pq.1 : Int) : Key), .bl true)]))) sd ((B.bfsAt 0 k ++ (M ++ [(B.mv (B.ls.getD j 0) pq.1, pq.2 ++ [B.ls.getD j 0])])).map (·.1)) := by
                  refine ⟨_, upd_same, ?_⟩
                  rw [List.map_append, g3, ← List.append_assoc, List.map_append (l₁ := B.bfsAt 0 k ++ M), List.map_append (l₁ := (B.bfsAt 0 k ++ M).map _)]
                  rfl
                generalize (upd H8 sd (.dK (es ++ [((.inl (B.mv (B.ls.getD j 0) pq.1 : Int) : Key), .bl true)]))) = H9 at *
                obtain ⟨xlo, k1, k2⟩ := hlo9
                have hlol : xlo.length ≤ 63 := by rw [dps_len k2, List.length_map]; rw [List.length_append] at hJl; omega
                refine r_app (K := K) (P := fun v H' => Dp K H' v (pD (B.mv (B.ls.getD j 0) pq.1, pq.2 ++ [B.ls.getD j 0]))) rfl k1 (by omega) (gd_tup (ga_cons (K := K) (gd_vi rfl) (ga_cons (gd_cat (K := K) (a := pq.2) (b := [B.ls.getD j 0]) (gd_vs rfl) (gd_vs rfl) (by simp; omega)) ga_nil)) (show 2 ≤ 100000 by omega)) fun v10 H10 s10 p10 => ?_
                have k1' := s10 _ _ (by simp) k1
                refine kk _ _ ⟨M ++ [(B.mv (B.ls.getD j 0) pq.1, pq.2 ++ [B.ls.getD j 0])], _, _, ?_, ⟨(g19.trans s10).mut hlo0, ?_, (hfo9.sm0 s10).updL k1' hlo_fo, ⟨by rw [upd_ne hlo_la]; exact s10 _ _ (by simp) hla9, dps_upd (noLs_p _) k1' (dps_sm s10 Wm.nil (.inl rfl) hla9')⟩, ⟨_, upd_same, ?_⟩⟩, rfl⟩
                · rw [e1]
                  unfold Aut.push
                  rw [if_neg hnm, List.append_assoc]
                · obtain ⟨es', z1, z2⟩ := hsd9
                  exact ⟨es', by rw [upd_ne hlo_sd]; exact s10 _ _ (by simp) z1, z2⟩
                · rw [List.map_append]
                  have k2' : DpAll K H10 xlo (M.map pD) := dps_sm s10 Wm.nil (.inl rfl) k2
                  have := dps_upd (o := .lst (xlo ++ [v10])) (noLs_iff.mpr fun d hd => by
                    rcases List.mem_append.mp hd with hd | hd
                    · obtain ⟨z, _, rfl⟩ := List.mem_map.mp hd; exact noL_p z
                    · simp at hd; subst hd; exact noL_p _) k1' (dps_snoc k2' p10)
                  exact this
              · have hm : B.mv (B.ls.getD j 0) pq.1 ∈ (B.bfsAt 0 k ++ M).map (·.1) := by simpa using h
                refine kk _ _ ⟨M, _, _, ?_, stI hI7 s8, rfl⟩
                rw [e1]
                unfold Aut.push
                rw [if_pos hm]
            · obtain ⟨M, w7, w8, hM, hI, rfl⟩ := h
              rw [List.take_length, ← bfsAt_next hat] at hM
              exact ⟨M, _, _, _, _, hM, hI, rfl⟩
      · obtain ⟨M, w5, w6, w7, w8, hM, ⟨g1, g2, ⟨xf, g3, g3'⟩, ⟨g4, g4'⟩, ⟨xo, g5, g5'⟩⟩, rfl⟩ := h
        rw [hxl, List.length_drop, show k + ((B.bfsAt 0 k).length - k) = (B.bfsAt 0 k).length by omega] at hM
        have hlm := hlen (B.bfsAt 0 k).length
        rw [hM, List.length_append] at hlm
        have lf : xf.length = (B.bfsAt 0 k).length := by rw [dps_len g3', List.length_map]
        have lo' : xo.length = M.length := by rw [dps_len g5', List.length_map]
        -- found + longer, list(longer)
        refine ⟨.ref fo, rfl, .ref lo, rfl, fo, lo, xf, xo, rfl, rfl, g3, g5, Nat.le_trans (m := 100) (by omega) (by decide), fun pf hpf => ?_⟩
        refine ⟨.ref lo, rfl, lo, xo, rfl, .inl (SqL.of (by rw [upd_ne (ne_of_none g5 hpf)]; exact g5)), fun pn hpn => ⟨_, _, rfl, ?_⟩⟩
        have t1 : Sm [] H' (upd H' pf (.lst (xf ++ xo))) := Sm.new hpf
        have t2 : Sm [] (upd H' pf (.lst (xf ++ xo))) (upd (upd H' pf (.lst (xf ++ xo))) pn (.lst xo)) := Sm.new hpn
        have hnp : pf ≠ pn := fun e => by subst e; rw [upd_same] at hpn; cases hpn
        refine hN (100 - (B.bfsAt 0 k).length) _ _ (by omega) ⟨(B.bfsAt 0 k).length, pf, pn, _, _, _, _, _, rfl, hlk, (g1.trans t1).trans t2, ?_, ⟨xf ++ xo, by rw [upd_ne hnp]; exact upd_same, ?_⟩, ⟨xo, upd_same, ?_⟩, rfl⟩
        · rw [hM]
          obtain ⟨es, z1, z2⟩ := g2
          exact ⟨es, (t1.trans t2) _ _ (by simp) z1, z2⟩
        · rw [hM, List.map_append]
          exact dps_sm (t1.trans t2) Wm.nil (.inl rfl) (dps_append g3' g5')
        · rw [hM, List.drop_left]
          exact dps_sm (t1.trans t2) Wm.nil (.inl rfl) g5'
    · have hge' : (B.bfsAt 0 k).length ≤ k := by
        refine Nat.le_of_not_lt fun hlt => ?_
        cases hd : (B.bfsAt 0 k).drop k with
        | nil => have := congrArg List.length hd; rw [List.length_drop] at this; simp at this; omega
        | cons a l => rw [hd] at hge; simp [PyData.eqv, PyData.eqvAll] at hge
      rw [bfsAt_done ok hs0 hge'] at hF
      exact r_ret (gd_var rfl Wm.nil (hF.sm0 s4).dp) fun v H4 s5 p5 => q v H4 ((s3.trans s4).trans s5) p5
end
end K29
namespace K29
open PySem PySem.Spec PyProof.Rows L2

theorem idx_injB {κ : Type} [BEq κ] [LawfulBEq κ] {l : List κ} {x y : κ} (hx : x ∈ l) (hy : y ∈ l) (e : l.idxOf x = l.idxOf y) : x = y := by
  have h1 := List.idxOf_lt_length_of_mem hx
  have h2 : l[l.idxOf x]'h1 = x := List.getElem_idxOf h1
  have h3 := List.idxOf_lt_length_of_mem hy
  have h4 : l[l.idxOf y]'h3 = y := List.getElem_idxOf h3
  rw [← h2, ← h4]
  congr 1
/-! len(set(ints)) -/
theorem firstMet_dd (ns : List Int) : ∀ i, i ≤ ns.length → PyProof.Rows.firstMet (fun i => ns.getD i 0) i = dd (ns.take i)
  | 0, _ => rfl
  | i + 1, hi => by
    have e : ns.getD i 0 = ns[i] := by rw [List.getD_eq_getElem?_getD, List.getElem?_eq_getElem (by omega)]; rfl
    have e2 : ns.take (i + 1) = ns.take i ++ [ns[i]] := by rw [List.take_add_one, List.getElem?_eq_getElem (by omega)]; rfl
    rw [PyProof.Rows.firstMet_succ, firstMet_dd ns i (by omega), e2, dd_snoc]
    show PyProof.Rows.step_dedup _ (ns.getD i 0) = _
    rw [e]
    unfold PyProof.Rows.step_dedup ddStep
    by_cases h : ns[i] ∈ dd (ns.take i)
    · rw [if_pos h, if_pos (by rw [List.any_eq_true]; exact ⟨_, h, by simp⟩)]
    · rw [if_neg h, if_neg (by rw [List.any_eq_true]; rintro ⟨x, hx, e⟩; exact h (by rw [← beq_iff_eq.mp e]; exact hx))]
def tLenSet (K : PySem.W.Frag) (ta : TE) : TE := fun σ H Q => ta σ H fun x H1 => ∃ (l : Addr) (ns : List Int), x = V.ref l ∧ SqL K H1 l (ns.map V.int) ∧ ns.length < 1000 ∧ Q (.int (cnt ns : Nat)) H1
theorem pe_lenSet {X : Cx} {K : PySem.W.Frag} {a : Expr} {ta : TE} {p p2 q pos : Pos} (hg : Gl X "len") (hm : X.mg "len" = none) (hg2 : Gl X "set") (hm2 : X.mg "set" = none) (ha : PE X a ta) (hc : X.calm = true := by rfl)
    (na : starEach [a] X.env = (false, eval a X.env) :: starEach [] X.env := by rfl) (hK : X.K = K := by rfl) : PE X (.Call (.Name "len" p) [.Call (.Name "set" p2) [a] [] q] [] pos) (tLenSet K ta) := by
  subst hK
  refine ⟨fun pins s σ H Q I h => ?_⟩
  refine Call_ (ld_blt I hg hm boot_len ?_)
  refine PyProof.Rows.callWith_builtin1 (PyProof.Rows.args_cons ?_ rfl) rfl rfl
  refine Call_ (ld_blt I hg2 hm2 boot_set ?_)
  refine PyProof.Rows.callWith_type1 (PyProof.Rows.args_cons (thn (ha.run pins s σ H _ I h) fun v s1 ⟨x, H1, I1, r1, q1⟩ => PyProof.Rows.args_nil ?_) na) na rfl
  obtain ⟨l, ns, rfl, hq, hl, q1⟩ := q1
  cases r1
  obtain ⟨its, r, pl, hz⟩ := I1.list hq
  have hlen : its.toArray.size = ns.length := by rw [List.size_toArray, ← r.length, List.length_map]
  refine call_set_list (I1.ok.hd hc) pl.isList (by simpa using RZ.intsAre_vals r) (by rw [hlen]; unfold scanBound; omega) fun h' tk hS hk => ?_
  refine PyProof.Rows.args_nil ?_
  rw [hlen, firstMet_dd ns ns.length (Nat.le_refl _), List.take_length] at hS
  have hc := cnt_le_length ns
  obtain ⟨o, es, ep, t, ho, hex, hd, _, _, _, hf, hn⟩ := hS
  have I2 : Inv X pins σ H1 { s1 with heap := h', toks := tk } := I1.kept fun b o e => hk b o (Heap.lt_size e) e
  have hn' : es.size = cnt ns := hn
  exact call_len_set ho hex hd hf (by rw [hn'] <;> omega) ⟨.int (cnt ns : Nat), H1, I2.tok _, ⟨_, by rw [hn']⟩, q1⟩
section
variable {K : PySem.W.Frag} {m : List Addr} {σ : L2.St} {H H' : Hp} {ta tb te : TE} {t : TA}
theorem gd_lenSet {l : List Nat} (h : Gd K [] te σ H (rowL l)) (hl : l.length < 1000) : Gd K [] (tLenSet K te) σ H (.int (cnt l : Int)) := fun H1 s1 w1 Q k =>
  h H1 s1 w1 _ fun v H2 s2 w2 p => by
    obtain ⟨a, xs, rfl, h1, h2⟩ := dp_lst p
    rw [rows_inv h2] at h1
    refine ⟨a, l.map fun q : Nat => (q : Int), rfl, by rw [List.map_map]; exact h1, by rw [List.length_map]; exact hl, ?_⟩
    rw [cnt_map (g := fun q : Nat => (q : Int)) fun x _ y _ e => by have e : (x : Int) = (y : Int) := e; omega]
    exact k _ H2 s2 w2 (.int _)
theorem gd_intB {b : Bool} (h : Gd K [] ta σ H (.bool b)) : Gd K [] (tCB (fun xs H Q => (∃ i, xs = [V.int i] ∧ Q (.int i) H) ∨ ∃ k, xs = [V.bl k] ∧ Q (.int (if k then 1 else 0)) H) (tCons ta tNil)) σ H (.int (if b = true then 1 else 0)) := fun H1 s1 w1 Q k =>
  h H1 s1 w1 _ fun v H2 s2 w2 p => by
    cases p
    exact .inr ⟨b, rfl, k _ H2 s2 w2 (.int _)⟩
theorem gd_catT {ds es : List PyData} (ha : Gd K m ta σ H (.tuple ds)) (hb : Gd K m tb σ H (.tuple es)) (hl : ds.length + es.length ≤ 10000) (ok : okD m (.tuple ds) := by first | exact Or.inl rfl | exact Or.inr rfl) (nl : noLs ds = true ∧ noLs es = true ∨ m = [] := by exact Or.inr rfl) : Gd K m (tOp (rCatA K) ta tb) σ H (.tuple (ds ++ es)) := gd_op ha hb (fun x y H1 _ w hx hy Q q => by
  obtain ⟨a, xs, rfl, h1, h2⟩ := dp_tup hx
  obtain ⟨b, ys, rfl, h3, h4⟩ := dp_tup hy
  refine ⟨a, b, xs, ys, rfl, rfl, h1, h3, Nat.le_trans (m := 10000) (by rw [dps_len h2, dps_len h4]; exact hl) (by decide), fun e => ?_, fun _ e => ?_, fun _ _ p hp => ?_⟩
  · subst e
    cases h2
    exact q _ H1 (Sm.refl _ _) w (.tup h3 h4)
  · subst e
    cases h4
    refine q _ H1 (Sm.refl _ _) w ?_
    rw [List.append_nil]
    exact .tup h1 h2
  · have s : Sm m H1 (upd H1 p (.tup (xs ++ ys))) := Sm.new hp
    refine q _ _ s (w.new hp) (.tup (SqT.of upd_same) (dps_sm s w ?_ (dps_append h2 h4)))
    rcases nl with ⟨n1, n2⟩ | e
    · exact .inr (noLs_iff.mpr fun d hd => by
        rcases List.mem_append.mp hd with h | h
        · exact noLs_iff.mp n1 d h
        · exact noLs_iff.mp n2 d h)
    · exact .inl e) ok
/-! equal rows -/
theorem eqv_rows : ∀ (a b : List Nat), PyData.eqvAll (a.map fun q : Nat => PyData.int (q : Int)) (b.map fun q : Nat => PyData.int (q : Int)) = decide (a = b)
  | [], [] => rfl
  | [], _ :: _ => rfl
  | _ :: _, [] => rfl
  | x :: a, y :: b => by
    rw [List.map_cons, List.map_cons]
    show ((x : Int) == (y : Int) && PyData.eqvAll _ _) = _
    rw [eqv_rows a b]
    by_cases h : x = y
    · subst h
      by_cases h2 : a = b
      · subst h2; simp
      · rw [decide_eq_false h2, decide_eq_false (fun e => h2 (List.cons.inj e).2)]; simp
    · rw [decide_eq_false (fun e => h (List.cons.inj e).1)]
      have : ((x : Int) == (y : Int)) = false := beq_eq_false_iff_ne.mpr (by omega)
      rw [this]; rfl
theorem eqv_rowD (a b : List Nat) : PyData.eqv (rowD a) (rowD b) = decide (a = b) := eqv_rows a b
theorem lay_row (l : List Nat) : (rowD l).canLay0 = true ∧ (rowD l).depth = 1 := by
  obtain ⟨h1, h2⟩ := lay_ints l
  refine ⟨by simpa [rowD, PyData.canLay0] using h1, ?_⟩
  show PyData.depthAll _ + 1 = 1
  rw [h2]
theorem shaped_row (l : List Nat) : SeqAt.shaped (rowD l) = true := by
  obtain ⟨h1, h2⟩ := lay_row l
  unfold SeqAt.shaped
  rw [h1, h2]; rfl
theorem lay_rows : ∀ M : List (List Nat), PyData.canLayAll0 (M.map rowD) = true ∧ PyData.depthAll (M.map rowD) ≤ 1
  | [] => ⟨rfl, Nat.zero_le _⟩
  | a :: M => by
    obtain ⟨h1, h2⟩ := lay_rows M
    obtain ⟨h3, h4⟩ := lay_row a
    rw [List.map_cons]
    refine ⟨by simp [PyData.canLayAll0, h1, h3], ?_⟩
    simp only [PyData.depthAll]
    omega
theorem shaped_rows (M : List (List Nat)) : SeqAt.shaped (.list (M.map rowD)) = true := by
  obtain ⟨h1, h2⟩ := lay_rows M
  unfold SeqAt.shaped
  rw [Bool.and_eq_true]
  refine ⟨by simpa [PyData.canLay0] using h1, decide_eq_true ?_⟩
  simp only [PyData.depth]
  omega
/-- known.index(row) -/
theorem gd_idxR {to : TE} {M : List (List Nat)} {r : List Nat} (ho : Gd K [] to σ H (.list (M.map rowD))) (hy : Ga K [] t σ H [rowD r]) (hr : r ∈ M) : Gd K [] (tBM K "list" (rIndexD K) to t) σ H (.int (M.idxOf r : Int)) := fun H1 s1 w1 Q k =>
  ho H1 s1 w1 _ fun x H2 s2 w2 p => by
    obtain ⟨a, xs, rfl, h1, h2⟩ := dp_lst p
    refine ⟨.inl ⟨rfl, _, h1⟩, hy H2 (s1.trans s2) w2 _ fun ys H3 s3 w3 p3 => ?_⟩
    cases p3 with
    | cons p4 p5 =>
      cases p5
      have hlt := List.idxOf_lt_length_of_mem hr
      refine ⟨a, _, rowD r, M.map rowD, M.idxOf r, rowD r, rfl, rfl, dp_sm0 s3 (.lst h1 h2), p4, shaped_rows M, shaped_row r, ?_, by rw [eqv_rowD]; simp, fun j z hj hz => ?_, k _ H3 (s2.trans s3) w3 (.int _)⟩
      · rw [List.getElem?_map, List.getElem?_eq_getElem hlt, List.getElem_idxOf]; rfl
      · rw [List.getElem?_map] at hz
        cases e : M[j]? with
        | none => rw [e] at hz; cases hz
        | some x =>
          rw [e] at hz
          have hx : rowD x = z := Option.some.inj hz
          subst hx
          rw [eqv_rowD]
          refine decide_eq_false fun hxr => ?_
          subst hxr
          have hnot := List.not_of_lt_findIdx (p := (· == x)) (xs := M) (i := j) hj
          rw [(List.getElem?_eq_some_iff.mp e).2] at hnot
          simp at hnot
/-- sorted(set(rows)) -/
theorem rows_split : ∀ {vs : List V} {rows : List (List Nat)}, DpAll K H vs (rows.map rowD) → ∃ ks : List (Addr × List Int), vs = ks.map (fun p => V.ref p.1) ∧ (∀ p ∈ ks, SqT K H p.1 (p.2.map V.int)) ∧ ks.map (·.2) = rows.map fun r => r.map fun q : Nat => (q : Int)
  | [], [], _ => ⟨[], rfl, by simp, rfl⟩
  | [], _ :: _, h => by cases h
  | _ :: _, [], h => by cases h
  | v :: vs, r :: rows, h => by
    rw [List.map_cons] at h
    cases h with
    | cons h1 h2 =>
      obtain ⟨ks, e1, e2, e3⟩ := rows_split h2
      obtain ⟨a, xs, rfl, h3, h4⟩ := dp_tup h1
      have hz := rows_inv h4
      subst hz
      refine ⟨(a, r.map fun q : Nat => (q : Int)) :: ks, by rw [List.map_cons, e1], fun p hp => ?_, by rw [List.map_cons, List.map_cons, e3]⟩
      rcases List.mem_cons.mp hp with rfl | hp
      · show SqT K H a ((r.map fun q : Nat => (q : Int)).map V.int)
        rw [List.map_map]; exact h3
      · exact e2 p hp
theorem nat_row (l : List Nat) : (l.map fun q : Nat => (q : Int)).map Int.toNat = l := by
  rw [List.map_map]
  exact List.map_id'' (fun x => by simp) l
theorem gets_sortedRows {P : Program} {w : World} {rows : List (List Nat)} {d : Nat} (h : Gd K [] te σ H (.list (rows.map rowD))) (hl : rows.length < 64) (hd : 1 ≤ d) (hr : ∀ r ∈ rows, r.length = d ∧ ∀ x ∈ r, x < 100) :
    Gets [] (tCB (rSortedT K P w) (tCons (tCB (rSetOfT K P w) (tCons te tNil)) tNil)) σ H (fun v H' => ∃ M : List (List Nat), M.Nodup ∧ (∀ r, r ∈ M ↔ r ∈ rows) ∧ Dp K H' v (.list (M.map rowD))) := fun H1 s1 w1 Q k =>
  h H1 s1 w1 _ fun v H2 s2 w2 p => by
    obtain ⟨a, xs, rfl, h1, h2⟩ := dp_lst p
    obtain ⟨ks, rfl, e2, e3⟩ := rows_split h2
    have hkl : ks.length = rows.length := by have := congrArg List.length e3; simpa using this
    have hkr : ∀ p ∈ ks, ∃ r ∈ rows, p.2 = r.map fun q : Nat => (q : Int) := fun p hp => by
      have : p.2 ∈ ks.map (·.2) := List.mem_map.mpr ⟨p, hp, rfl⟩
      rw [e3] at this
      obtain ⟨r, hr, e⟩ := List.mem_map.mp this
      exact ⟨r, hr, e.symm⟩
    refine ⟨a, ks, rfl, h1, e2, by omega, fun b L hb hL1 hL2 => ?_⟩
    have t1 : Sm [] H2 (upd H2 b (SetTO P w b L)) := Sm.new hb
    refine ⟨b, L, d, 100, rfl, upd_same, fun p hp => t1.tup Wm.nil (e2 p (hL1 p hp)), hd, fun p hp => ?_, fun L' pp hperm hnd _ _ hpp => ?_⟩
    · obtain ⟨r, hrr, e⟩ := hkr p (hL1 p hp)
      obtain ⟨g1, g2⟩ := hr r hrr
      rw [e]
      refine ⟨by rw [List.length_map]; exact g1, fun x hx => ?_⟩
      obtain ⟨q, hq, rfl⟩ := List.mem_map.mp hx
      have := g2 q hq
      omega
    · have hsub : ∀ p ∈ L', p ∈ ks := fun p hp => hL1 p (hperm.mem_iff.mp hp)
      have eL : L'.map (·.2) = (L'.map fun q => q.2.map Int.toNat).map fun r => r.map fun q : Nat => (q : Int) := by
        rw [List.map_map]
        refine List.map_congr_left fun p hp => ?_
        obtain ⟨r, _, e⟩ := hkr p (hsub p hp)
        show p.2 = (p.2.map Int.toNat).map fun q : Nat => (q : Int)
        rw [e, nat_row]
      have t2 : Sm [] (upd H2 b (SetTO P w b L)) (upd (upd H2 b (SetTO P w b L)) pp (.lst (L'.map fun q => V.ref q.1))) := Sm.new hpp
      refine k _ _ ((s2.trans t1).trans t2) Wm.nil ⟨L'.map fun q => q.2.map Int.toNat, ?_, fun r => ⟨fun hm => ?_, fun hm => ?_⟩, .lst (SqL.of upd_same) ?_⟩
      · rw [eL] at hnd
        exact List.Pairwise.of_map (S := (· ≠ ·)) (fun r : List Nat => r.map fun q : Nat => (q : Int)) (fun a b hne e => hne (by rw [e])) hnd
      · obtain ⟨p, hp, rfl⟩ := List.mem_map.mp hm
        obtain ⟨r, hr, e⟩ := hkr p (hsub p hp)
        rw [e, nat_row]; exact hr
      · have : (r.map fun q : Nat => (q : Int)) ∈ ks.map (·.2) := by rw [e3]; exact List.mem_map.mpr ⟨r, hm, rfl⟩
        obtain ⟨p, hp, e⟩ := List.mem_map.mp this
        obtain ⟨p', hp', e'⟩ := List.mem_map.mp (hL2 p hp)
        refine List.mem_map.mpr ⟨p', hperm.mem_iff.mpr hp', ?_⟩
        rw [show p'.2 = p.2 from e', show p.2 = _ from e, nat_row]
      · have gen : ∀ (Z : List (Addr × List Int)), (∀ p ∈ Z, p ∈ ks) → DpAll K (upd (upd H2 b (SetTO P w b L)) pp (.lst (L'.map fun q => V.ref q.1))) (Z.map fun q => V.ref q.1) ((Z.map fun q => q.2.map Int.toNat).map rowD) := fun Z => by
          induction Z with
          | nil => intro _; exact .nil
          | cons p Z ih =>
            intro hZ
            refine .cons ?_ (ih fun q hq => hZ q (List.mem_cons_of_mem _ hq))
            obtain ⟨r, hr, e⟩ := hkr p (hZ p List.mem_cons_self)
            have hs := (t1.trans t2).tup Wm.nil (e2 p (hZ p List.mem_cons_self))
            show Dp K _ (V.ref p.1) (rowD (p.2.map Int.toNat))
            rw [e] at hs ⊢
            rw [nat_row]
            rw [List.map_map] at hs
            exact .tup hs (dps_nats r)
        exact gen L' hsub
end
section
variable {P : Program} {w : World} {K : PySem.W.Frag} {mg : Str → Option Value} {base : Heap} {f C : Addr} {fd : FuncData}
section
variable {X : Cx}
theorem setOfT_ (P : Program) (w : World) (K : PySem.W.Frag) (hu : X.A.units + 64 < cLine) (hc : X.calm = true := by rfl) (hK : X.K = K := by rfl) (hP : X.prog = P := by rfl) (hw : X.w = w := by rfl) : CallR X (.type "set") (rSetOfT K P w) := by
  subst hK hP hw
  exact cr_setOfT hc hu
theorem sortedT_ (P : Program) (w : World) (K : PySem.W.Frag) (hc : X.calm = true := by rfl) (hK : X.K = K := by rfl) (hP : X.prog = P := by rfl) (hw : X.w = w := by rfl) : CallR X (.builtin "sorted") (rSortedT K P w) := by
  subst hK hP hw
  exact cr_sortedT hc
end
abbrev N__law_kin : List Str := ["_law_plain", "_law_many", "_law_marks", "_law_last", "_law_rows", "_law_known", "_law_at", "_law_sign", "_law_row"]
theorem sc__law_kin : FnScope N__law_kin ["_law_plain"] (defScope s__law_kin) := ⟨rfl, rfl, rfl, by decide +kernel, rfl, by decide +kernel, by decide +kernel⟩
def sp_kin (K : PySem.W.Frag) : Sp := fun vs H Q _ => ∃ (A : Aut) (p dw ty : Addr), vs = [.ref p] ∧ A.Ok ∧ A.n ≤ 9 ∧ PlAt K H p A dw ty ∧ ∀ f v H', ClsOk A f → Sm [] H H' → Dp K H' v (rowL f) → Q v H'
theorem ok_kin (F : Fun K "_law_kin" "_law_kin" s__law_kin f fd) (T : Txt K mg C) : FnOk P w K mg base CX0 1 f fd ["_law_plain"] (sp_kin K) := by
  refine F.ok sc__law_kin (fun vs H Q E h => ?_) (fun cdv A outer s H vs Q E hr h => ?_)
  · obtain ⟨A, p, dw, ty, rfl, _⟩ := h
    rfl
  · obtain ⟨B, p, dw, ty, rfl, ok, h9, R, q⟩ := h
    have nd := sc__law_kin.nd
    have hu := hu_of hr
    have hu64 := hr.units
    have hu65 : (A.deeper (PyProof.Rows.envOfC "_law_kin" (defScope s__law_kin) s.heap.objs.size f cdv)).units + 65 < cLine := by have := hr.un; omega
    refine ⟨_, (pss_cons (ps_set (i := 1) nd rfl (.inl rfl) (pe_callB (lenSeq_ K) (by rfl) T.len PySem.boot_len (pa_cons (pe_dget hu (pe_dget hu (pv 0) pe_str (fun _ _ => rfl)) (pe_ix ix_str (pe_dget hu (pv 0) pe_str (fun _ _ => rfl)) pe_int (fun _ _ => rfl)) (fun _ _ => rfl)) pa_nil)))
  (pss_cons (ps_asg (pe_tup (pa_cons (pe_lc (own := [("_law_at", 6)]) rfl nd (pi_range1 (by rfl) T.range (pa_cons (pv 1) pa_nil)) (blkOk_by (N := N__law_kin) (sc := defScope s__law_kin) (by decide +kernel)) (fun _ _ _ _ _ => (pg_name (i := 6) nd rfl (.inl rfl) (hf := .inr rfl))) (fun _ _ _ _ _ => pts_nil) (fun _ _ _ _ _ => (pe_callTy call_int1 (by rfl) T.int (by decide +kernel) (pa_cons (pe_cmpR (inSeq_ K) (pv 6) (pe_dget hu (pv 0) pe_str (fun _ _ => rfl)) (by rfl)) pa_nil)))) (pa_cons pe_int pa_nil))) (pg_tup rfl (pgs_cons (pg_name (i := 2) nd rfl (.inr rfl)) (pgs_cons (pg_name (i := 3) nd rfl (.inl rfl)) pgs_nil))))
  (pss_cons (ps_while PassesOwn.never (pt_cmpR op_gt (pe_lenSet (K := K) (by rfl) T.len (by rfl) T.set (pv 2)) (pv 3) (nomark _)) 
    (pss_cons (ps_set (i := 3) nd rfl (.inl rfl) (pe_lenSet (K := K) (by rfl) T.len (by rfl) T.set (pv 2)))
    (pss_cons (ps_setLc (i := 4) (own := [("_law_at", 6)]) rfl nd rfl rfl (sw_true rfl rfl rfl (by decide +kernel)) (pi_range1 (by rfl) T.range (pa_cons (pv 1) pa_nil)) (blkOk_by (N := N__law_kin) (sc := defScope s__law_kin) (by decide +kernel)) (fun _ _ _ _ _ => (pg_name (i := 6) nd rfl (.inr rfl) (hf := .inl rfl))) (fun _ _ _ _ _ => pts_nil) (fun _ _ _ _ _ => (pe_op (catA_ K) (pe_tup (pa_cons (pe_ix (ixL_ K) (pv 2) (pv 6) (fun _ _ => rfl)) pa_nil)) (pe_callTy (tupOf_ K) (by rfl) T.tuple (by decide +kernel) (pa_cons (pe_lc (own := [("_law_sign", 7)]) rfl nd (pi_str (pe_dget hu (pv 0) pe_str (fun _ _ => rfl))) (blkOk_by (N := N__law_kin) (sc := relS _ (defScope s__law_kin)) (by decide +kernel)) (fun _ _ _ _ _ => (pg_name (i := 7) nd rfl (.inl rfl) (hf := .inr rfl))) (fun _ _ _ _ _ => pts_nil) (fun _ _ _ _ _ => (pe_ix (ixL_ K) (pv 2) (pe_ix (ixT_ K) (pe_dget hu (pe_dget hu (pv 0) pe_str (fun _ _ => rfl)) (pv 7) (fun _ _ => rfl)) (pv 6) (fun _ _ => rfl)) (fun _ _ => rfl)))) pa_nil)))))
    (pss_cons (ps_set (i := 5) nd rfl (.inr rfl) (pe_callB (sortedT_ P w K) (by rfl) T.sorted (by decide +kernel) (pa_cons (pe_callTy (setOfT_ P w K hu64) (by rfl) T.set (by decide +kernel) (pa_cons (pv 4) pa_nil)) pa_nil)))
    (pss_one (ps_set (i := 2) nd rfl (.inr rfl) (pe_lc (own := [("_law_row", 8)]) rfl nd (pi_listK (K := K) (pv 4)) (blkOk_by (N := N__law_kin) (sc := defScope s__law_kin) (by decide +kernel)) (fun _ _ _ _ _ => (pg_name (i := 8) nd rfl (.inl rfl) (hf := .inr rfl))) (fun _ _ _ _ _ => pts_nil) (fun _ _ _ _ _ => (pe_lmK (K := K) PySem.F.slot_list_index PySem.F.type_list_index (mtIdxD_ K hu65) (pv 5) (pa_cons (pv 8) pa_nil))))))))))
  (pss_one (ps_ret (pv 2)))))), ?_⟩
    have hl1 := ok.l1
    have hl3 := ok.l3
    have hn1 := ok.n1
    refine rq_asg (gd_lenT (n := B.n) (ga_cons (K := K) (gd_wrow (c := B.ls.getD 0 0) (gv_var rfl) R Wm.nil (gd_ixS (i := 0) (gd_signs (gv_var rfl) R Wm.nil) gd_i (by omega) (by omega)) (ls_getD (by omega))) ga_nil) (by rw [List.length_map, row_len ok (ls_getD (by omega))])) fun v1 H1 s1 p1 => ?_
    cases dp_int p1
    have R1 := R.sm0 s1
    refine rq_asg2 (K := K) (d1 := rowL ((List.range B.n).map fun i => if B.acc i = true then 1 else 0)) (d2 := .int (0 : Nat)) (gd_tup (ga_cons (K := K) (Gets.is (gd_lc1 (K := K) (n := B.n) (fun i => .int ((if B.acc i = true then 1 else 0 : Nat) : Int)) (src_range1 (n := B.n) (ga_cons (K := K) (gd_vi rfl) ga_nil) (by omega)) (by omega) fun i x H' hi s w hx => ?_) (by unfold rowL; rw [List.map_map]; rfl)) (ga_cons gd_i ga_nil)) (show 2 ≤ 100000 by omega)) fun v2 v3 H2 s2 p2 p3 => ?_
    · cases dp_int hx
      refine Gets.is (gd_intB (K := K) (gd_op (gd_vi (n := (i : Int)) rfl) (gd_good (gv_var rfl) (R1.sm0 s) Wm.nil) rd_inT)) ?_
      show PyData.int (if B.acc i = true then 1 else 0) = PyData.int ((if B.acc i = true then 1 else 0 : Nat) : Int)
      cases B.acc i <;> rfl
    cases dp_int p3
    have h0 : RefSt B ((List.range B.n).map fun i => if B.acc i = true then 1 else 0) 0 := RefSt.init (by simp) fun i j hi hj => by
      simp only [List.getD_eq_getElem?_getD, List.getElem?_map, List.getElem?_range hi, List.getElem?_range hj, Option.map_some, Option.getD_some]
      cases B.acc i <;> cases B.acc j <;> simp
    refine rq_while (fun k' σ' H' => ∃ (f : List Nat) (last : Nat) (v : V) (w4 w5 : Option V), k' = 100 - last ∧ last ≤ 60 ∧ RefSt B f last ∧ (∀ x ∈ f, x < 100) ∧ Sm [] H H' ∧ Dp K H' v (rowL f) ∧ σ' = [some (.ref p), some (.int (B.n : Int)), some v, some (.int (last : Int)), w4, w5, none, none, none])
      100 ⟨_, 0, v2, none, none, rfl, by omega, h0, ?_, s1.trans s2, p2, rfl⟩ fun k' σ' H' hW => ?_
    · intro x hx
      obtain ⟨i, _, rfl⟩ := List.mem_map.mp hx
      cases B.acc i <;> simp
    obtain ⟨f, last, v, w4, w5, rfl, hlast, S, hb, s3, p4, rfl⟩ := hW
    have hcn := S.cnt_le
    have hfl : f.length < 1000 := by rw [S.len]; omega
    refine ⟨decide (last < cnt f), GetsT.is (gt_test (K := K) (gd_gt (gd_lenSet (gd_var rfl Wm.nil p4) hfl) (gd_vi (n := (last : Int)) rfl))) (by simp only [Int.ofNat_lt]), fun hlt H4 s4 N hN => ?_, fun hge H4 s4 => ?_⟩
    · have hlt := of_decide_eq_true hlt
      refine rq_asg (gd_lenSet (gd_var rfl Wm.nil (dp_sm0 s4 p4)) hfl) fun v6 H5 s5 p5 => ?_
      cases dp_int p5
      have s45 := s4.trans s5
      have R5 := R.sm0 (s3.trans s45)
      have p45 := dp_sm0 s45 p4
      have hfi : ∀ {i}, i < B.n → i < f.length := fun h => by rw [S.len]; exact h
      let g : Nat → List Nat := fun i => f.getD i 0 :: B.ls.map fun c => f.getD (B.mv c i) 0
      refine rq_asg (Gets.is (gd_lc1 (K := K) (n := B.n) (fun i => rowD (g i)) (src_range1 (n := B.n) (ga_cons (K := K) (gd_vi rfl) ga_nil) (by omega)) (by omega) (fun i x H' hi s w hx => ?_) (hno := fun i _ => noL_row _)) (show _ = PyData.list (((List.range B.n).map g).map rowD) by rw [List.map_map]; rfl)) fun vr H6 s6 p6 => ?_
      · cases dp_int hx
        have R6 := R5.sm0 s
        have p46 := dp_sm0 s p45
        refine Gets.is (gd_catT (gd_tup (ga_cons (K := K) (gd_ixL (n := i) (gd_var rfl Wm.nil p46) (gd_vi rfl) (rowL_at (hfi hi))) ga_nil) (show 1 ≤ 100000 by omega)) (gd_tupleOf (ga_cons (K := K) (Gets.is (gd_lc1 (K := K) (n := B.ls.length) (fun j => .int (f.getD (B.mv (B.ls.getD j 0) i) 0 : Int)) (src_str (l := B.ls) (gd_signs (gv_var rfl) R6 Wm.nil)) (by omega) fun j x' H8 hj s10 w10 hx' => ?_) (show _ = PyData.list ((B.ls.map fun c => f.getD (B.mv c i) 0).map fun q : Nat => PyData.int (q : Int)) by
            rw [List.map_map]
            exact congrArg PyData.list (rng_map B.ls fun c => PyData.int (f.getD (B.mv c i) 0 : Int)))) ga_nil)) ?_) ?_
        · cases dp_str hx'
          exact gd_ixL (n := B.mv (B.ls.getD j 0) i) (gd_var rfl Wm.nil (dp_sm0 s10 p46)) (gd_wmv (K := K) (c := B.ls.getD j 0) (i := i) ok (gv_var rfl) (R6.sm0 s10) Wm.nil (gd_vs rfl) (ls_getD hj) (gd_vi rfl) hi) (rowL_at (hfi (mv_lt ok (ls_getD hj) hi)))
        · simp; omega
        · rfl
      · have hrows : ∀ r ∈ (List.range B.n).map g, r.length = B.ls.length + 1 ∧ ∀ x ∈ r, x < 100 := fun r hr => by
          obtain ⟨i, hi, rfl⟩ := List.mem_map.mp hr
          have hi' := List.mem_range.mp hi
          have hfm : ∀ {j}, j < B.n → f.getD j 0 < 100 := fun {j} hj => hb _ (by rw [getD_of (hfi hj)]; exact List.getElem_mem _)
          refine ⟨by simp [g], fun x hx => ?_⟩
          rcases List.mem_cons.mp hx with rfl | hx
          · exact hfm hi'
          · obtain ⟨c, hc, rfl⟩ := List.mem_map.mp hx
            exact hfm (mv_lt ok hc hi')
        refine rq_asg (gets_sortedRows (P := P) (w := w) (d := B.ls.length + 1) (gd_var rfl Wm.nil p6) (by rw [List.length_map, List.length_range]; omega) (by omega) hrows) fun vk H7 s7 p7 => ?_
        obtain ⟨M, hM1, hM2, p7⟩ := p7
        have hMl : M.length ≤ 60 := by
          have := List.Nodup.length_le_of_subset hM1 (l₂ := (List.range B.n).map g) fun x hx => (hM2 x).mp hx
          rw [List.length_map, List.length_range] at this
          omega
        have hgm : ∀ {i}, i < B.n → g i ∈ M := fun {i} hi => (hM2 _).mpr (List.mem_map.mpr ⟨i, List.mem_range.mpr hi, rfl⟩)
        refine r_asg (Gets.is (gd_lc1 (K := K) (n := B.n) (fun i => .int (M.idxOf (g i) : Int)) (src_of (E' := fun i => rowD (g i)) (src_list (gd_var rfl Wm.nil (dp_sm0 s7 p6))) (by simp) fun i hi => by
          simp only [List.length_map, List.length_range] at hi
          simp [List.getD_eq_getElem?_getD, hi]) (by omega) (fun i x H' hi s w hx => gd_idxR (gd_var rfl Wm.nil (dp_sm0 s p7)) (ga_cons (K := K) (gd_var rfl Wm.nil hx) ga_nil) (hgm hi))) (show _ = rowL ((List.range B.n).map fun i => M.idxOf (g i)) by unfold rowL; rw [List.map_map]; rfl)) fun v8 H8 s8 p8 => ?_
        refine hN (100 - cnt f) _ _ (by omega) ⟨_, cnt f, v8, _, _, rfl, by omega, S.next ok (by simp) fun i j hi hj => ?_, fun x hx => ?_, (((s3.trans s45).trans s6).trans s7).trans s8, p8, rfl⟩
        · simp only [List.getD_eq_getElem?_getD, List.getElem?_map, List.getElem?_range hi, List.getElem?_range hj, Option.map_some, Option.getD_some]
          constructor
          · intro e
            have e2 := idx_injB (hgm hi) (hgm hj) e
            obtain ⟨e3, e4⟩ := List.cons.inj e2
            simp only [List.getD_eq_getElem?_getD] at e3 e4
            exact ⟨e3, fun c hc => List.map_inj_left.mp e4 c hc⟩
          · intro e
            have e3 := e.1
            have e4 := e.2
            congr 1
            show _ :: _ = _ :: _
            simp only [List.getD_eq_getElem?_getD]
            rw [e3, List.map_congr_left (fun c hc => e4 c hc)]
        · obtain ⟨i, hi, rfl⟩ := List.mem_map.mp hx
          have := List.idxOf_lt_length_of_mem (hgm (List.mem_range.mp hi))
          omega
    · have hge := of_decide_eq_false hge
      refine r_ret (gd_var rfl Wm.nil (dp_sm0 s4 p4)) fun v' H5 s7 p7 => q f v' H5 (S.done ok (by omega)) ((s3.trans s4).trans s7) p7
end
end K29
namespace K29
open PySem PySem.Spec PyProof.Rows L2
section
variable {K : PySem.W.Frag} {m : List Addr} {σ : L2.St} {H H' : Hp} {ta tb te tl : TE} {t : TA} {u tbody : TS} {D : Ends}
/-- a, b = (x, y), whatever is known of them -/
theorem rq_asgT2 {i j : Nat} {PP : V → V → Hp → Prop} (h : GetsA [] t σ H (fun vs H' => ∃ v1 v2, vs = [v1, v2] ∧ PP v1 v2 H')) (st : ∀ v1 v2 H1 H2, Sm [] H1 H2 → PP v1 v2 H1 → PP v1 v2 H2)
    (k : ∀ v1 v2 H1, Sm [] H H1 → PP v1 v2 H1 → u D ((σ.set i (some v1)).set j (some v2)) H1) : tSeq (tAsg (tTup t) (gTup K 2 (gCons (gName i) (gCons (gName j) gNil)))) u D σ H :=
  h H (Sm.refl _ _) Wm.nil _ fun vs H1 s1 _ p => by
    obtain ⟨v1, v2, rfl, p⟩ := p
    exact ⟨show 2 ≤ sizeLine by decide, fun a ha => ⟨a, _, rfl, SqT.of upd_same, rfl, _, _, rfl, _, _, rfl, rfl, k v1 v2 _ (s1.trans (Sm.new ha)) (st _ _ _ _ (Sm.new ha) p)⟩⟩
theorem h_asgT2 {i j : Nat} {PP : V → V → Hp → Prop} (h : GetsA [] t σ H (fun vs H' => ∃ v1 v2, vs = [v1, v2] ∧ PP v1 v2 H')) (st : ∀ v1 v2 H1 H2, Sm [] H1 H2 → PP v1 v2 H1 → PP v1 v2 H2)
    (k : ∀ v1 v2 H1, Sm [] H H1 → PP v1 v2 H1 → D.nx ((σ.set i (some v1)).set j (some v2)) H1) : tAsg (tTup t) (gTup K 2 (gCons (gName i) (gCons (gName j) gNil))) D σ H := rq_asgT2 (u := fun D => D.nx) (D := D) (K := K) h st k
theorem rq_asgT3 {i j l : Nat} {PP : V → V → V → Hp → Prop} (h : GetsA [] t σ H (fun vs H' => ∃ v1 v2 v3, vs = [v1, v2, v3] ∧ PP v1 v2 v3 H')) (st : ∀ v1 v2 v3 H1 H2, Sm [] H1 H2 → PP v1 v2 v3 H1 → PP v1 v2 v3 H2)
    (k : ∀ v1 v2 v3 H1, Sm [] H H1 → PP v1 v2 v3 H1 → u D (((σ.set i (some v1)).set j (some v2)).set l (some v3)) H1) : tSeq (tAsg (tTup t) (gTup K 3 (gCons (gName i) (gCons (gName j) (gCons (gName l) gNil))))) u D σ H :=
  h H (Sm.refl _ _) Wm.nil _ fun vs H1 s1 _ p => by
    obtain ⟨v1, v2, v3, rfl, p⟩ := p
    exact ⟨show 3 ≤ sizeLine by decide, fun a ha => ⟨a, _, rfl, SqT.of upd_same, rfl, _, _, rfl, _, _, rfl, _, _, rfl, rfl, k v1 v2 v3 _ (s1.trans (Sm.new ha)) (st _ _ _ _ _ (Sm.new ha) p)⟩⟩
/-- a new list in its plain form -/
abbrev IsLst (xs : List V) : V → Hp → Prop := fun v H' => ∃ a, v = .ref a ∧ H' a = some (.lst xs)
theorem gets_nil : Gets [] (tLst tNil) σ H (IsLst []) := fun H1 s1 w1 Q k => ⟨show 0 ≤ sizeLine by decide, fun a ha => k _ _ (Sm.new ha) Wm.nil ⟨a, rfl, upd_same⟩⟩
theorem gets_cat1 {i : Nat} {a : Addr} {xs : List V} {v : V} (hi : σ[i]? = some (some (.ref a))) (ha : H a = some (.lst xs)) (hl : xs.length ≤ 10000) (h : Gv [] te σ H v) : Gets [] (tOp rCat (tVar i) (tLst (tCons te tNil))) σ H (IsLst (xs ++ [v])) := fun H1 s1 w1 Q k =>
  ⟨.ref a, hi, h H1 s1 w1 _ fun x H2 s2 w2 e => by
    subst e
    refine ⟨show 1 ≤ sizeLine by decide, fun b hb => ⟨a, b, xs, [x], rfl, rfl, ?_, upd_same, Nat.le_trans (m := 10001) (by simp; omega) (by decide), fun p hp => k _ _ ((s2.trans (Sm.new hb)).trans (Sm.new hp)) Wm.nil ⟨p, rfl, upd_same⟩⟩⟩
    exact ((s1.trans s2).trans (Sm.new hb)) _ _ (by simp) ha⟩
/-- a for over pairs -/
theorem rq_forP {wi : TI} {j j' n : Nat} {E : Nat → PyData} {d1 d2 : Nat → PyData} (hS : Src1 K [] wi σ H n E) (hE : ∀ i, i < n → E i = .tuple [d1 i, d2 i]) (Pv : Nat → L2.St → Hp → Prop) (h0 : ∀ H1, Sm [] H H1 → Pv 0 σ H1)
    (hs : ∀ i x y σ' H' (N : L2.St → Hp → Prop), i < n → Sm [] H H' → Pv i σ' H' → Dp K H' x (d1 i) → Dp K H' y (d2 i) → (∀ σ2 H2, Sm [] H' H2 → Pv (i + 1) σ2 H2 → N σ2 H2) → tbody { D with nx := N, ct := N, bk := u D } ((σ'.set j (some x)).set j' (some y)) H')
    (hd : ∀ σ' H', Sm [] H H' → Pv n σ' H' → u D σ' H') : tSeq (tFor wi (gTup K 2 (gCons (gName j) (gCons (gName j') gNil))) tbody) u D σ H := by
  refine hS H (Sm.refl _ _) Wm.nil _ fun J H2 G Y s2 w2 W hG hY => ?_
  refine for_it W (fun i σ' H' => Sm [] H2 H' ∧ Pv i σ' H') ⟨Sm.refl _ _, h0 H2 s2⟩ (fun i σ' H' _ p => hG H' p.1 Wm.nil) (fun i x σ' H' H'' hi p y => ?_) (fun σ' H' p => hd σ' H' (s2.trans p.1) p.2)
  obtain ⟨rfl, hx⟩ := hY i x H' H'' hi p.1 Wm.nil y
  rw [hE i hi] at hx
  obtain ⟨a, xs, rfl, h1, h2⟩ := dp_tup hx
  cases h2 with
  | cons p1 p2 => cases p2 with
    | cons p2 p3 =>
      cases p3
      exact ⟨a, _, rfl, h1, rfl, _, _, rfl, _, _, rfl, rfl, hs i _ _ σ' H'' _ hi (s2.trans p.1) p.2 p1 p2 fun σ3 H3 s3 q => ⟨p.1.trans s3, q⟩⟩
theorem mergeK_new : ∀ (kvs acc : List (Key × V)), ((acc ++ kvs).map fun x : Key × V => x.1).Nodup → mergeK acc kvs = acc ++ kvs
  | [], acc, _ => by simp [mergeK]
  | (k, v) :: r, acc, h => by
    have e : acc ++ (k, v) :: r = (acc ++ [(k, v)]) ++ r := by simp
    rw [e] at h ⊢
    rw [← mergeK_new r (acc ++ [(k, v)]) h]
    show mergeK (putK acc k v) r = _
    rw [putK_new v (valV_out fun hm => ?_)]
    rw [List.map_append, List.map_append, List.append_assoc, List.nodup_append] at h
    exact h.2.2 k hm k (by simp) rfl
/-- dict(pairs) -/
theorem gets_dictP {kds : List (Key × PyData)} (h : Ga K [] t σ H [.list (kds.map fun p => .tuple [kD p.1, p.2])]) (hn : (kds.map (·.1)).Nodup) : Gets [] (tCB (fun xs H Q => ∃ (a : Addr) (ps : List Addr) (kvs : List (Key × V)), xs = [.ref a] ∧ SqL K H a (ps.map V.ref) ∧ Paired (fun p kv => SqT K H p [kV kv.1, kv.2]) ps kvs ∧
    ∀ p, H p = none → Q (.ref p) (upd H p (.dK (mergeK [] kvs)))) t) σ H (NewDict K kds) := fun H1 s1 w1 Q k =>
  h H1 s1 w1 _ fun vs H2 s2 w2 p => by
    cases p with
    | cons p1 p2 =>
      cases p2
      obtain ⟨a, xs, rfl, h1, h2⟩ := dp_lst p1
      have gen : ∀ (kds : List (Key × PyData)) (xs : List V), DpAll K H2 xs (kds.map fun p => .tuple [kD p.1, p.2]) → ∃ (ps : List Addr) (kvs : List (Key × V)), xs = ps.map V.ref ∧ Paired (fun p kv => SqT K H2 p [kV kv.1, kv.2]) ps kvs ∧ kvs.map (·.1) = kds.map (·.1) ∧ DpAll K H2 (kvs.map (·.2)) (kds.map (·.2)) := fun kds => by
        induction kds with
        | nil => intro xs h; cases h; exact ⟨[], [], rfl, .nil, rfl, .nil⟩
        | cons p kds ih =>
          intro xs h
          rw [List.map_cons] at h
          cases h with
          | cons h1 h2 =>
            obtain ⟨ps, kvs, rfl, e2, e3, e4⟩ := ih _ h2
            obtain ⟨b, ys, rfl, g1, g2⟩ := dp_tup h1
            cases g2 with
            | cons q1 q2 => cases q2 with
              | cons q2 q3 =>
                cases q3
                have ek := key_of_dp q1
                subst ek
                exact ⟨b :: ps, (p.1, _) :: kvs, rfl, .cons g1 e2, by rw [List.map_cons, List.map_cons, e3], .cons q2 e4⟩
      obtain ⟨ps, kvs, rfl, e2, e3, e4⟩ := gen kds xs h2
      refine ⟨a, ps, kvs, rfl, h1, e2, fun p hp => k _ _ (s2.trans (Sm.new hp)) Wm.nil ⟨p, rfl, ⟨kvs, ?_, e3, dps_sm (Sm.new (m := []) hp) Wm.nil (.inl rfl) e4⟩⟩⟩
      rw [mergeK_new kvs [] (by rw [List.nil_append, e3]; exact hn)]
      exact upd_same
end
section
variable {P : Program} {w : World} {K : PySem.W.Frag} {mg : Str → Option Value} {base : Heap} {f C : Addr} {fd : FuncData}
abbrev N__law_lean : List Str := ["_law_plain", "_law_marks", "_law_order", "_law_lines", "_law_state", "_law_line_here", "_law_place", "_law_ways", "_law_good", "_law_one", "_law_at", "_law_sign"]
theorem sc__law_lean : FnScope N__law_lean ["_law_plain"] (defScope s__law_lean) := ⟨rfl, rfl, rfl, by decide +kernel, rfl, by decide +kernel, by decide +kernel⟩
abbrev IsLn (K : PySem.W.Frag) (B : Aut) (T : List (List Nat)) : V → Hp → Prop := fun v H' => ∃ q dw ty ll, v = .ref q ∧ LnAt K H' q B T dw ty ll
def sp_lean (K : PySem.W.Frag) : Sp := fun vs H Q _ => ∃ (A : Aut) (p dw ty : Addr), vs = [.ref p] ∧ A.Ok ∧ A.n ≤ 9 ∧ PlAt K H p A dw ty ∧ ∀ B T v H', LeastOf A B T → Sm [] H H' → IsLn K B T v H' → Q v H'
theorem lnF_merge {ls : List Nat} {dw ty ll : Addr} : mergeK [] (lnF ls dw ty ll) = lnF ls dw ty ll := mergeK_new _ [] (by
  show [kS "signs", kS "ways", kS "good", kS "lines"].Nodup
  decide +kernel)
theorem ok_lean (F : Fun K "_law_lean" "_law_lean" s__law_lean f fd) (T : Txt K mg C) (G_law_kin : Ok1 P w K mg base "_law_kin" ["_law_plain"] 1 (sp_kin K)) (G_law_first_lines : Ok1 P w K mg base "_law_first_lines" ["_law_plain"] 1 (sp_first_lines K)) : FnOk P w K mg base CX0 2 f fd ["_law_plain"] (sp_lean K) := by
  refine F.ok sc__law_lean (fun vs H Q E h => ?_) (fun cdv A outer s H vs Q E hr h => ?_)
  · obtain ⟨A, p, dw, ty, rfl, _⟩ := h
    rfl
  · obtain ⟨B, p, dw, ty, rfl, ok, h9, R, q⟩ := h
    have nd := sc__law_lean.nd
    have hu := hu_of hr
    refine ⟨_, (pss_cons (ps_asg (pe_tup (pa_cons (pe_callP G_law_kin hr (by rfl) (pa_cons (pv 0) pa_nil)) (pa_cons (pe_lst pa_nil) (pa_cons (pe_lst pa_nil) pa_nil)))) (pg_tup rfl (pgs_cons (pg_name (i := 1) nd rfl (.inr rfl)) (pgs_cons (pg_name (i := 2) nd rfl (.inr rfl)) (pgs_cons (pg_name (i := 3) nd rfl (.inl rfl)) pgs_nil)))))
  (pss_cons (ps_for PassesOwn.never rfl (pi_listK (K := K) (pe_callP G_law_first_lines hr (by rfl) (pa_cons (pv 0) pa_nil))) (pg_tup rfl (pgs_cons (pg_name (i := 4) nd rfl (.inl rfl)) (pgs_cons (pg_name (i := 5) nd rfl (.inl rfl)) pgs_nil))) 
    (pss_one (ps_if (pt_cmpR (notInSeq_ K) (pe_ix (ixL_ K) (pv 1) (pv 4) (fun _ _ => rfl)) (pe_lc (own := [("_law_one", 9)]) rfl nd (pi_listK (K := K) (pv 2)) (blkOk_by (N := N__law_lean) (sc := defScope s__law_lean) (by decide +kernel)) (fun _ _ _ _ _ => (pg_name (i := 9) nd rfl (.inl rfl) (hf := .inr rfl))) (fun _ _ _ _ _ => pts_nil) (fun _ _ _ _ _ => (pe_ix (ixL_ K) (pv 1) (pv 9) (fun _ _ => rfl)))) (by rfl)) 
      (pss_one (ps_asg (pe_tup (pa_cons (pe_op op_cat (pv 2) (pe_lst (pa_cons (pv 4) pa_nil))) (pa_cons (pe_op op_cat (pv 3) (pe_lst (pa_cons (pv 5) pa_nil))) pa_nil))) (pg_tup rfl (pgs_cons (pg_name (i := 2) nd rfl (.inr rfl)) (pgs_cons (pg_name (i := 3) nd rfl (.inl rfl)) pgs_nil))))) pss_nil)))
  (pss_cons (ps_set (i := 6) nd rfl (.inr rfl) (pe_callTy (call_dictP rfl) (by rfl) T.dict (by decide +kernel) (pa_cons (pe_lc (own := [("_law_at", 10), ("_law_state", 4)]) rfl nd (pi_enumK (K := K) (by rfl) T.enumerate (pa_cons (pv 2) pa_nil)) (blkOk_by (N := N__law_lean) (sc := defScope s__law_lean) (by decide +kernel)) (fun _ _ _ _ _ => (pg_tupK (K := K) (n := 2) rfl (pgs_cons (pg_name (i := 10) nd rfl (.inl rfl) (hf := .inr rfl)) (pgs_cons (pg_name (i := 4) nd rfl (.inl rfl) (hf := .inr rfl)) pgs_nil)))) (fun _ _ _ _ _ => pts_nil) (fun _ _ _ _ _ => (pe_tup (pa_cons (pe_ix (ixL_ K) (pv 1) (pv 4) (fun _ _ => rfl)) (pa_cons (pv 10) pa_nil))))) pa_nil)))
  (pss_cons (ps_set (i := 7) nd rfl (.inl rfl) (pe_callTy (call_dictP rfl) (by rfl) T.dict (by decide +kernel) (pa_cons (pe_lc (own := [("_law_sign", 11)]) rfl nd (pi_str (pe_dget hu (pv 0) pe_str (fun _ _ => rfl))) (blkOk_by (N := N__law_lean) (sc := defScope s__law_lean) (by decide +kernel)) (fun _ _ _ _ _ => (pg_name (i := 11) nd rfl (.inr rfl) (hf := .inl rfl))) (fun _ _ _ _ _ => pts_nil) (fun _ _ _ _ _ => (pe_tup (pa_cons (pv 11) (pa_cons (pe_callTy (tupOf_ K) (by rfl) T.tuple (by decide +kernel) (pa_cons (pe_lc (own := [("_law_state", 4)]) rfl nd (pi_listK (K := K) (pv 2)) (blkOk_by (N := N__law_lean) (sc := relS _ (defScope s__law_lean)) (by decide +kernel)) (fun _ _ _ _ _ => (pg_name (i := 4) nd rfl (.inl rfl) (hf := .inr rfl))) (fun _ _ _ _ _ => pts_nil) (fun _ _ _ _ _ => (pe_dget hu (pv 6) (pe_ix (ixL_ K) (pv 1) (pe_ix (ixT_ K) (pe_dget hu (pe_dget hu (pv 0) pe_str (fun _ _ => rfl)) (pv 11) (fun _ _ => rfl)) (pv 4) (fun _ _ => rfl)) (fun _ _ => rfl)) (fun _ _ => rfl)))) pa_nil)) pa_nil))))) pa_nil)))
  (pss_cons (ps_set (i := 8) nd rfl (.inl rfl) (pe_callTy (tupOf_ K) (by rfl) T.tuple (by decide +kernel) (pa_cons (pe_lc (own := [("_law_at", 10), ("_law_state", 4)]) rfl nd (pi_enumK (K := K) (by rfl) T.enumerate (pa_cons (pv 2) pa_nil)) (blkOk_by (N := N__law_lean) (sc := defScope s__law_lean) (by decide +kernel)) (fun _ _ _ _ _ => (pg_tupK (K := K) (n := 2) rfl (pgs_cons (pg_name (i := 10) nd rfl (.inl rfl) (hf := .inr rfl)) (pgs_cons (pg_name (i := 4) nd rfl (.inl rfl) (hf := .inr rfl)) pgs_nil)))) (fun _ _ _ _ _ => (pts_one (pt_cmpR (inSeq_ K) (pv 4) (pe_dget hu (pv 0) pe_str (fun _ _ => rfl)) (by rfl)))) (fun _ _ _ _ _ => (pv 10))) pa_nil)))
  (pss_one (ps_ret (pe_disp (pps_cons pe_str (pe_dget hu (pv 0) pe_str (fun _ _ => rfl)) (pps_cons pe_str (pv 7) (pps_cons pe_str (pv 8) (pps_cons pe_str (pv 3) pps_nil)))) (by rfl) (by rfl) (fun z => by cases z) (by decide))))))))), ?_⟩
    have hl3 := ok.l3
    have hn1 := ok.n1
    have BA := bfs_all ok hn1
    refine rq_asgT3 (K := K) (PP := fun v1 v2 v3 H' => ∃ f o l, ClsOk B f ∧ Dp K H' v1 (rowL f) ∧ v2 = .ref o ∧ H' o = some (.lst []) ∧ v3 = .ref l ∧ H' l = some (.lst []))
      (GetsA.imp (gA_cons (P := fun v H' => ∃ f, ClsOk B f ∧ Dp K H' v (rowL f)) (gd_call (gA_v (gv_var rfl) gA_nil) fun vs H2 s2 w2 p Q k => ?_) (fun v H1 H2 s _ h => ?_) (gA_cons gets_nil (fun v H1 H2 s _ h => ?_) (gA_cons gets_nil (fun v H1 H2 s _ h => ?_) gA_nil))) fun vs H2 s2 w2 h => ?_) (fun v1 v2 v3 H1 H2 s h => ?_) fun v1 v2 v3 H1 s1 h => ?_
    · subst p
      exact ⟨B, _, dw, ty, rfl, ok, h9, R.sm0 s2, fun f v H3 c s3 p3 => k v H3 s3 Wm.nil ⟨f, c, p3⟩⟩
    · obtain ⟨f, c, h⟩ := h
      exact ⟨f, c, dp_sm0 s h⟩
    · obtain ⟨a, e, h⟩ := h
      exact ⟨a, e, s _ _ (by simp) h⟩
    · obtain ⟨a, e, h⟩ := h
      exact ⟨a, e, s _ _ (by simp) h⟩
    · obtain ⟨u1, q1, rfl, ⟨f, c, h1⟩, u2, q2, rfl, ⟨o, rfl, h2⟩, u3, q3, rfl, ⟨l, rfl, h3⟩, rfl⟩ := h
      exact ⟨_, _, _, rfl, f, o, l, c, h1, rfl, h2, rfl, h3⟩
    · obtain ⟨f, o, l, c, h1, h2, h3, h4, h5⟩ := h
      exact ⟨f, o, l, c, dp_sm0 s h1, h2, s _ _ (by simp) h3, h4, s _ _ (by simp) h5⟩
    obtain ⟨f, o1, l1, Cl, hm1, rfl, ho1, rfl, hl1'⟩ := h
    have hfi : ∀ {i}, i < B.n → i < f.length := fun h => by rw [Cl.len]; exact h
    have hLn : (B.bfs 0).length ≤ B.n := bfsAt_len ok hn1 _
    have hLq : ∀ p ∈ B.bfs 0, p.1 < B.n := BA.lt
    have LE := pick_least ok Cl
    have hsub : ∀ i, (pick (fun q => f.getD q 0) ((B.bfs 0).take i)).length ≤ 60 := fun i => by
      have h1 := (pick_sub (fun q => f.getD q 0) ((B.bfs 0).take i)).length_le
      have h2 : ((B.bfs 0).take i).length ≤ (B.bfs 0).length := by rw [List.length_take]; omega
      omega
    have hsubm : ∀ i, ∀ p ∈ pick (fun q => f.getD q 0) ((B.bfs 0).take i), p.1 < B.n := fun i p hp => hLq p (List.mem_of_mem_take ((pick_sub _ _).subset hp))
    have hcov := pick_cover (fun q => f.getD q 0) (B.bfs 0) BA.asc
    have hclo : ∀ {c q}, c ∈ B.ls → q ∈ (B.bfs 0).map (·.1) → B.mv c q ∈ (B.bfs 0).map (·.1) := fun hc hq => bfs_closed ok hn1 hc hq
    have hpsub : ∀ p ∈ pick (fun q => f.getD q 0) (B.bfs 0), p ∈ B.bfs 0 := fun p hp => (pick_sub _ _).subset hp
    have hpnd := pick_nd (fun q => f.getD q 0) (B.bfs 0)
    have hrow := fun {c} hc => relab_row (A := B) (f := fun q => f.getD q 0) (P := pick (fun q => f.getD q 0) (B.bfs 0)) (c := c) hc
    have hyes : (relab B (fun q => f.getD q 0) (pick (fun q => f.getD q 0) (B.bfs 0))).yes = (List.range (pick (fun q => f.getD q 0) (B.bfs 0)).length).filter fun i => B.acc (((pick (fun q => f.getD q 0) (B.bfs 0)).map (·.1)).getD i 0) := rfl
    generalize hL : B.bfs 0 = L at *
    refine rq_forP (K := K) (n := L.length) (E := fun i => pD (L.getD i (0, []))) (d1 := fun i => .int ((L.getD i (0, [])).1 : Int)) (d2 := fun i => .str (tx (L.getD i (0, [])).2))
      (src_of (src_list (K := K) (ds := L.map pD) (gd_call (gA_v (gv_var rfl) gA_nil) fun vs H2 s2 w2 p Q k => ?_)) (by rw [List.length_map]) fun i hi => ?_) (fun i hi => rfl)
      (fun i σ' H' => ∃ o l w4 w5, H' o = some (.lst (nats ((pick (fun q => f.getD q 0) (L.take i)).map (·.1)))) ∧ H' l = some (.lst (txts ((pick (fun q => f.getD q 0) (L.take i)).map (·.2)))) ∧ σ' = [some (.ref p), some v1, some (.ref o), some (.ref l), w4, w5, none, none, none, none, none, none])
      (fun H2 s2 => ⟨o1, l1, none, none, s2 _ _ (by simp) ho1, s2 _ _ (by simp) hl1', rfl⟩) (fun i x y σ' H' N hi s hP hx hy kk => ?_) fun σ' H' s hP => ?_
    · subst p
      exact ⟨B, _, dw, ty, rfl, ok, R.sm0 (s1.trans s2), fun v H3 s3 p3 => k v H3 s3 Wm.nil (by rw [hL] at p3; exact p3)⟩
    · rw [List.length_map] at hi
      simp [List.getD_eq_getElem?_getD, hi]
    · obtain ⟨o, l, w4, w5, ho, hll, rfl⟩ := hP
      cases dp_int hx
      cases dp_str hy
      have hLi : L[i]? = some (L.getD i (0, [])) := getD_at hi
      have hqn : (L.getD i (0, [])).1 < B.n := hLq _ (List.mem_of_getElem? hLi)
      have hPl := hsub i
      have hPm := hsubm i
      have hpk : pick (fun q => f.getD q 0) (L.take (i + 1)) = pickStep (fun q => f.getD q 0) (pick (fun q => f.getD q 0) (L.take i)) (L.getD i (0, [])) := by
        rw [List.take_add_one, hLi]
        exact pick_snoc _ _ _
      generalize L.getD i (0, []) = z at *
      generalize pick (fun q => f.getD q 0) (L.take i) = Pk at *
      have hm2 := dp_sm0 s hm1
      have hOl : (Pk.map (·.1)).length ≤ 60 := by rw [List.length_map]; exact hPl
      refine r_if (b := !decide (f.getD z.1 0 ∈ Pk.map fun r => f.getD r.1 0)) (gt_test (K := K) (gd_op (gd_ixL (n := z.1) (gd_var rfl Wm.nil hm2) (gd_vi rfl) (rowL_at (hfi hqn))) (Gets.is (gd_lc1 (K := K) (n := (Pk.map (·.1)).length) (fun j => .int (f.getD ((Pk.map (·.1)).getD j 0) 0 : Int)) (src_listN rfl (gd_var rfl Wm.nil (rowL_of ho))) (by omega) fun j x H3 hj s3 w3 hx3 => ?_) (show _ = rowL (Pk.map fun r => f.getD r.1 0) by
          show PyData.list _ = PyData.list _
          rw [rng_map (Pk.map (·.1)) fun q => PyData.int (f.getD q 0 : Int), List.map_map, List.map_map]
          rfl)) rd_notInL)) (fun h H3 s3 => ?_) fun h H3 s3 => ?_
      · cases dp_int hx3
        have hjm : (Pk.map (·.1)).getD j 0 < B.n := by
          rw [getD_of hj]
          obtain ⟨r, hr, e⟩ := List.mem_map.mp (List.getElem_mem (l := Pk.map (·.1)) hj)
          rw [← e]; exact hPm r hr
        exact gd_ixL (n := (Pk.map (·.1)).getD j 0) (gd_var rfl Wm.nil (dp_sm0 s3 hm2)) (gd_vi rfl) (rowL_at (hfi hjm))
      · have hnm : f.getD z.1 0 ∉ Pk.map fun r => f.getD r.1 0 := by simpa using h
        refine h_asgT2 (K := K) (PP := fun v1 v2 H' => IsLst (nats (Pk.map (·.1)) ++ [.int (z.1 : Int)]) v1 H' ∧ IsLst (txts (Pk.map (·.2)) ++ [.str (tx z.2)]) v2 H')
          (GetsA.imp (gA_cons (gets_cat1 rfl (s3 _ _ (by simp) ho) (by unfold nats; rw [List.length_map]; omega) (gv_var rfl)) (fun v H1 H2 s _ h => ?_) (gA_cons (gets_cat1 rfl (s3 _ _ (by simp) hll) (by unfold txts; rw [List.length_map, List.length_map]; omega) (gv_var rfl)) (fun v H1 H2 s _ h => ?_) gA_nil)) fun vs H4 s4 w4 h4 => ?_) (fun v1 v2 H1 H2 s h => ?_) fun v1 v2 H4 s4 h4 => ?_
        · obtain ⟨a, e, h⟩ := h
          exact ⟨a, e, s _ _ (by simp) h⟩
        · obtain ⟨a, e, h⟩ := h
          exact ⟨a, e, s _ _ (by simp) h⟩
        · obtain ⟨u1, q1, rfl, h5, u2, q2, rfl, h6, rfl⟩ := h4
          exact ⟨_, _, rfl, h5, h6⟩
        · obtain ⟨⟨a, e, h⟩, ⟨b, e', h'⟩⟩ := h
          exact ⟨⟨a, e, s _ _ (by simp) h⟩, ⟨b, e', s _ _ (by simp) h'⟩⟩
        · obtain ⟨⟨a, rfl, h5⟩, ⟨b, rfl, h6⟩⟩ := h4
          have e2 : pick (fun q => f.getD q 0) (L.take (i + 1)) = Pk ++ [z] := by rw [hpk]; unfold pickStep; rw [if_neg hnm]
          refine kk _ _ (s3.trans s4) ⟨a, b, _, _, ?_, ?_, rfl⟩
          · rw [e2, h5]; unfold nats; simp
          · rw [e2, h6]; unfold txts; simp
      · have hm : f.getD z.1 0 ∈ Pk.map fun r => f.getD r.1 0 := by simpa using h
        have e2 : pick (fun q => f.getD q 0) (L.take (i + 1)) = Pk := by rw [hpk]; unfold pickStep; rw [if_pos hm]
        refine kk _ _ s3 ⟨o, l, _, _, ?_, ?_, rfl⟩
        · rw [e2]; exact s3 _ _ (by simp) ho
        · rw [e2]; exact s3 _ _ (by simp) hll
    · obtain ⟨o, l, w4, w5, ho, hll, rfl⟩ := hP
      rw [List.take_length] at ho hll
      have hPl := hsub L.length
      rw [List.take_length] at hPl
      have s2 := s1.trans s
      have hm2 := dp_sm0 s hm1
      have R2 := R.sm0 s2
      generalize hPk : pick (fun q => f.getD q 0) L = Pk at *
      have hPq : ∀ {j}, j < (Pk.map (·.1)).length → (Pk.map (·.1)).getD j 0 < B.n ∧ (Pk.map (·.1)).getD j 0 ∈ L.map (·.1) := fun {j} hj => by
        rw [getD_of hj]
        obtain ⟨r, hr, e⟩ := List.mem_map.mp (List.getElem_mem (l := Pk.map (·.1)) hj)
        rw [← e]
        exact ⟨hLq r (hpsub r hr), List.mem_map.mpr ⟨r, hpsub r hr, rfl⟩⟩
      have hOl : (Pk.map (·.1)).length = Pk.length := List.length_map ..
      have hMMl : (Pk.map fun r => f.getD r.1 0).length = Pk.length := List.length_map ..
      have hMMat : ∀ {j}, j < Pk.length → (Pk.map fun r => f.getD r.1 0).getD j 0 = f.getD ((Pk.map (·.1)).getD j 0) 0 := fun {j} hj => by
        simp [List.getD_eq_getElem?_getD, hj]
      have hcov2 : ∀ {q}, q ∈ L.map (·.1) → f.getD q 0 ∈ Pk.map fun r => f.getD r.1 0 := fun {q} hq => by
        obtain ⟨z, hz, rfl⟩ := List.mem_map.mp hq
        obtain ⟨r, hr, e, _⟩ := hcov z hz
        exact List.mem_map.mpr ⟨r, hr, e⟩
      have hrow2 : ∀ {c}, c ∈ B.ls → (relab B (fun q => f.getD q 0) Pk).row c = (Pk.map (·.1)).map fun q => (Pk.map fun r => f.getD r.1 0).idxOf (f.getD (B.mv c q) 0) := fun {c} hc => by
        rw [hrow hc, List.map_map]; rfl
      have hBn := LE.ok
      generalize hO : Pk.map (·.1) = O at *
      generalize hMM : (Pk.map fun r => f.getD r.1 0) = MM at *
      refine rq_asg (P := NewDict K (placesD MM)) (gets_dictP (ga_cons (K := K) (Gets.is (gd_lc2 (K := K) (n := O.length) (fun i => .tuple [.int (MM.getD i 0 : Int), .int (i : Int)]) (src_of2 (F' := fun i => .int (O.getD i 0 : Int)) (src_enum (ga_cons (K := K) (gd_var rfl Wm.nil (rowL_of ho)) ga_nil)) (by rw [List.length_map]) (fun _ _ => rfl) fun i hi => row_getD (by rw [List.length_map] at hi; exact hi)) (by omega) (fun i x y H' hi s w hx hy => ?_)) ?_) ga_nil) ?_) fun vp H3 s3 hpp => ?_
      · cases dp_int hx
        cases dp_int hy
        rw [hMMat (by omega)]
        exact gd_tup (ga_cons (K := K) (gd_ixL (n := O.getD i 0) (gd_var rfl Wm.nil (dp_sm0 s hm2)) (gd_vi rfl) (rowL_at (hfi (hPq hi).1))) (ga_cons (gd_vi rfl) ga_nil)) (show 2 ≤ 100000 by omega)
      · unfold placesD
        rw [List.map_map, hOl, ← hMMl]
        rfl
      · unfold placesD
        rw [List.map_map]
        refine nd_map_on List.nodup_range fun a ha b hb e => ?_
        have ha' := List.mem_range.mp ha
        have hb' := List.mem_range.mp hb
        have e' : (MM.getD a 0 : Int) = (MM.getD b 0 : Int) := Sum.inl.inj e
        rw [getD_of ha', getD_of hb'] at e'
        exact (List.getElem_inj hpnd).mp (by omega)
      obtain ⟨pp, rfl, hpp⟩ := hpp
      have ho3 := s3 _ _ (by simp) ho
      have hl3' := s3 _ _ (by simp) hll
      have hm3 := dp_sm0 s3 hm2
      have R3 := R2.sm0 s3
      refine rq_asg (P := NewDict K (movesD (relab B (fun q => f.getD q 0) Pk))) (gets_dictP (ga_cons (K := K) (Gets.is (gd_lc1 (K := K) (n := B.ls.length) (fun j => .tuple [.str (tx [B.ls.getD j 0]), rowD (O.map fun q => MM.idxOf (f.getD (B.mv (B.ls.getD j 0) q) 0))]) (src_str (l := B.ls) (gd_signs (gv_var rfl) R3 Wm.nil)) (by omega) (fun j x H' hj s w hx => ?_) (hno := fun j _ => by show noL (.tuple [_, _]) = true; simp [noL, noLs, noL_row])) ?_) ga_nil) ?_) fun vw H4 s4 hww => ?_
      · cases dp_str hx
        have hc := ls_getD hj
        refine gd_tup (ga_cons (K := K) (gd_vs rfl) (ga_cons (Gets.is (gd_tupleOf (ga_cons (K := K) (Gets.is (gd_lc1 (K := K) (n := O.length) (fun k => .int (MM.idxOf (f.getD (B.mv (B.ls.getD j 0) (O.getD k 0)) 0) : Int)) (src_listN rfl (gd_var rfl Wm.nil (rowL_of (s _ _ (by simp) ho3)))) (by omega) fun k x' H5 hk s5 w5 hx' => ?_) ?_) ga_nil)) rfl) ga_nil)) (show 2 ≤ 100000 by omega)
        · cases dp_int hx'
          exact gd_dget (k := Sum.inl (f.getD (B.mv (B.ls.getD j 0) (O.getD k 0)) 0 : Int)) (gv_var rfl) (gd_ixL (n := B.mv (B.ls.getD j 0) (O.getD k 0)) (gd_var rfl Wm.nil (dp_sm0 (s.trans s5) hm3)) (gd_wmv (K := K) (c := B.ls.getD j 0) (i := O.getD k 0) ok (gv_var rfl) (R3.sm0 (s.trans s5)) Wm.nil (gd_vs rfl) hc (gd_vi rfl) (hPq hk).1) (rowL_at (hfi (mv_lt ok hc (hPq hk).1)))) (hpp.sm (s.trans s5) Wm.nil) w5 (.inl rfl) (places_look hpnd (hcov2 (hclo hc (hPq hk).2)))
        · show PyData.list _ = PyData.list _
          rw [List.map_map]
          exact congrArg PyData.list (rng_map O fun q => PyData.int (MM.idxOf (f.getD (B.mv (B.ls.getD j 0) q) 0) : Int))
      · show PyData.list _ = PyData.list _
        congr 1
        unfold movesD
        rw [List.map_map]
        refine Eq.trans (rng_map B.ls fun c => PyData.tuple [.str (tx [c]), rowD (O.map fun q => MM.idxOf (f.getD (B.mv c q) 0))]) (List.map_congr_left fun c hc => ?_)
        show _ = PyData.tuple [kD (ck c), rowD ((relab B (fun q => f.getD q 0) Pk).row c)]
        rw [hrow2 hc]
        rfl
      · unfold movesD
        rw [List.map_map]
        exact nd_map_on (ok.asc.imp fun {a b} h => Nat.ne_of_lt h) fun a _ b _ e => ck_inj e
      obtain ⟨pw, rfl, hww⟩ := hww
      have R4 := R3.sm0 s4
      refine rq_asg (Gets.is (gd_tupleOf (ga_cons (K := K) (gd_lcF2 (K := K) (n := O.length) (fun i => B.acc (O.getD i 0)) (fun i => .int (i : Int)) (src_of2 (F' := fun i => .int (O.getD i 0 : Int)) (src_enum (ga_cons (K := K) (gd_var rfl Wm.nil (rowL_of (s4 _ _ (by simp) ho3))) ga_nil)) (by rw [List.length_map]) (fun _ _ => rfl) fun i hi => row_getD (by rw [List.length_map] at hi; exact hi)) (by omega) (fun i x y H7 hi s w hx hy => ?_) (fun i x y H7 hi hf s w hx hy => gd_var rfl w hx)) ga_nil)) (show _ = rowD (relab B (fun q => f.getD q 0) Pk).yes by rw [hyes, hOl]; rfl)) fun vy H5 s5 py => ?_
      · cases dp_int hy
        exact gt_test (K := K) (gd_op (gd_vi (n := (O.getD i 0 : Int)) rfl) (gd_good (gv_var rfl) (R4.sm0 s) Wm.nil) rd_inT)
      obtain ⟨ty', tys, rfl, _, _⟩ := dp_tup (show Dp K H5 vy (.tuple _) from py)
      have R5 := R4.sm0 s5
      have hw5 := hww.sm s5 Wm.nil (.inl rfl)
      have hl5 := (s4.trans s5) _ _ (by simp) hl3'
      have s05 := ((s2.trans s3).trans s4).trans s5
      refine fun pd hpd => ?_
      have sd : Sm [] H5 (upd H5 pd (.dK [])) := Sm.new hpd
      have hsg : ∀ σ : L2.St, σ[0]? = some (some (.ref p)) → Gv [] (tDGet (tVar 0) (tC (.str "signs"))) σ (upd H5 pd (.dK [])) (.str (tx B.ls)) := fun σ h => gv_key (gv_var h) Wm.nil (R5.sm0 sd).ob pl_signs
      show tDGet (tVar 0) (tC (.str "signs")) _ _ _
      refine hsg _ rfl _ (Sm.refl _ _) Wm.nil _ fun v7 H7 s7 _ e7 => ?_
      subst e7
      refine ⟨_, rfl, _, rfl, _, rfl, s7 _ _ (by simp) upd_same, lnF B.ls pw ty' l, rfl, (show 4 ≤ 15 by decide), ?_⟩
      rw [lnF_merge]
      have s6 : Sm [] H5 (upd H7 pd (.dK (lnF B.ls pw ty' l))) := (sd.trans s7).mut hpd
      refine q _ _ _ _ LE (s05.trans s6) ⟨pd, pw, ty', l, rfl, upd_same, hw5.sm s6 Wm.nil (.inl rfl), dp_sm0 s6 py, _, s6 _ _ (by simp) hl5, dps_sm s6 Wm.nil (.inl rfl) (by
        have := dps_txts (K := K) (H := H5) (Pk.map (·.2))
        exact this)⟩
end
end K29
namespace K29
open PySem PySem.Spec PyProof.Rows L2
section
variable {K : PySem.W.Frag} {m : List Addr} {σ : L2.St} {H H' : Hp} {ta tb te : TE} {t : TA} {p dw ty ll : Addr} {A : Aut} {T : List (List Nat)}
theorem gd_lines (hp : Gv [] te σ H (.ref p)) (R : LnAt K H p A T dw ty ll) : Gd K [] (tDGet te (tC (.str "lines"))) σ H (textsD T) := gd_of (gv_key hp Wm.nil R.ob ln_lines) fun H1 s _ => by
  obtain ⟨xs, h1, h2⟩ := R.ln
  exact .lst (SqL.of (s _ _ (by simp) h1)) (dps_sm s Wm.nil (.inl rfl) h2)
theorem gd_lrow {c : Nat} (hp : Gv [] te σ H (.ref p)) (R : LnAt K H p A T dw ty ll) (hc : Gd K [] tb σ H (.str (tx [c]))) (h : c ∈ A.ls) : Gd K [] (tDGet (tDGet te (tC (.str "ways"))) tb) σ H (rowD (A.row c)) :=
  gd_dget (k := ck c) (gv_key hp Wm.nil R.ob ln_ways) hc R.mv Wm.nil (.inl rfl) (movesD_look h)
theorem gd_lmv {c i : Nat} (ok : A.Ok) (hp : Gv [] te σ H (.ref p)) (R : LnAt K H p A T dw ty ll) (hc : Gd K [] tb σ H (.str (tx [c]))) (h : c ∈ A.ls) (hi : Gd K [] ta σ H (.int (i : Int))) (hin : i < A.n) :
    Gd K [] (tOp (rIxT K) (tDGet (tDGet te (tC (.str "ways"))) tb) ta) σ H (.int (A.mv c i : Int)) :=
  gd_ixT (n := i) (gd_lrow hp R hc h) hi (rowD_get (row_get ok h hin))
theorem texts_at {i : Nat} (h : i < T.length) : (T.map fun w => PyData.str (tx w))[i]? = some (.str (tx (T.getD i []))) := by
  rw [List.getElem?_map, List.getD_eq_getElem?_getD, List.getElem?_eq_getElem h]; rfl
end
section
variable {P : Program} {w : World} {K : PySem.W.Frag} {mg : Str → Option Value} {base : Heap} {f C : Addr} {fd : FuncData}
abbrev N__law_merge_there : List Str := ["_law_plain", "_law_lean_here", "_law_many", "_law_sign", "_law_row", "_law_one", "_law_other"]
theorem sc__law_merge_there : FnScope N__law_merge_there ["_law_plain"] (defScope s__law_merge_there) := ⟨rfl, rfl, rfl, by decide +kernel, rfl, by decide +kernel, by decide +kernel⟩
def sp_merge_there (K : PySem.W.Frag) : Sp := fun vs H Q _ => ∃ (A : Aut) (p dw ty : Addr), vs = [.ref p] ∧ A.Ok ∧ A.n ≤ 9 ∧ PlAt K H p A dw ty ∧ ∀ B T v H', LeastOf A B T → Sm [] H H' → Dp K H' v (mD (mergeOf B T)) → Q v H'
theorem gets_lean {σ : L2.St} {H : Hp} {ta : TE} {A : Aut} {p dw ty : Addr} (ok : A.Ok) (h9 : A.n ≤ 9) (hp : Gv [] ta σ H (.ref p)) (R : PlAt K H p A dw ty) : Gets [] (tCall (sp_lean K) [] E0 (tCons ta tNil)) σ H (fun v H' => ∃ B T, LeastOf A B T ∧ IsLn K B T v H') :=
  gd_call (gA_v hp gA_nil) fun vs H2 s2 w2 e Q k => by
    subst e
    exact ⟨A, p, dw, ty, rfl, ok, h9, R.sm0 s2, fun B T v H3 L s3 h3 => k v H3 s3 Wm.nil ⟨B, T, L, h3⟩⟩
theorem ok_merge_there (F : Fun K "_law_merge_there" "_law_merge_there" s__law_merge_there f fd) (T : Txt K mg C) (G_law_lean : Ok1 P w K mg base "_law_lean" ["_law_plain"] 2 (sp_lean K)) : FnOk P w K mg base CX0 3 f fd ["_law_plain"] (sp_merge_there K) := by
  refine F.ok sc__law_merge_there (fun vs H Q E h => ?_) (fun cdv A outer s H vs Q E hr h => ?_)
  · obtain ⟨A, p, dw, ty, rfl, _⟩ := h
    rfl
  · obtain ⟨A, p, dw, ty, rfl, ok, h9, R, q⟩ := h
    have nd := sc__law_merge_there.nd
    have hu := hu_of hr
    refine ⟨_, (pss_cons  (ps_set (i := 1) nd rfl (.inl rfl) (pe_callP G_law_lean hr (by rfl) (pa_cons (pv 0) pa_nil)))
  (pss_cons  (ps_set (i := 2) nd rfl (.inl rfl) (pe_callB (lenSeq_ K) (by rfl) T.len PySem.boot_len (pa_cons (pe_dget hu (pv 1) pe_str (fun _ _ => rfl)) pa_nil)))
  (pss_cons  (ps_for PassesOwn.never rfl (pi_str (pe_dget hu (pv 0) pe_str (fun _ _ => rfl))) (pg_name (i := 3) nd rfl (.inl rfl)) 
    (pss_cons  (ps_set (i := 4) nd rfl (.inl rfl) (pe_dget hu (pe_dget hu (pv 1) pe_str (fun _ _ => rfl)) (pv 3) (fun _ _ => rfl)))
    (pss_one  (ps_for PassesOwn.never rfl (pi_range1 (by rfl) T.range (pa_cons (pv 2) pa_nil)) (pg_name (i := 5) nd rfl (.inl rfl)) 
      (pss_one  (ps_for PassesOwn.never rfl (pi_range2 (by rfl) T.range (pa_cons (pe_op op_add (pv 5) pe_int) (pa_cons (pv 2) pa_nil))) (pg_name (i := 6) nd rfl (.inl rfl)) 
        (pss_one  (ps_if (pt_cmpR op_eq (pe_ix (ixT_ K) (pv 4) (pv 5) (fun _ _ => rfl)) (pe_ix (ixT_ K) (pv 4) (pv 6) (fun _ _ => rfl)) (nomark _)) 
          (pss_one  (ps_ret (pe_tup (pa_cons (pv 3) (pa_cons (pe_ix (ixL_ K) (pe_dget hu (pv 1) pe_str (fun _ _ => rfl)) (pv 5) (fun _ _ => rfl)) (pa_cons (pe_ix (ixL_ K) (pe_dget hu (pv 1) pe_str (fun _ _ => rfl)) (pv 6) (fun _ _ => rfl)) pa_nil)))))) pss_nil))))))))
  (pss_one  (ps_ret pe_non))))), ?_⟩
    refine rq_asg (gets_lean ok h9 (gv_var rfl) R) fun v1 H1 s1 p1 => ?_
    obtain ⟨B, Tx, L, q1, dw1, ty1, ll1, rfl, RL⟩ := p1
    have okB := L.ok
    have hTl := L.len
    have hBl : B.ls = A.ls := L.ls_
    have h60 := okB.n60
    have R1 := R.sm0 s1
    refine rq_asg (gd_lenS (n := B.n) (ga_cons (K := K) (gd_lines (gv_var rfl) RL) ga_nil) (by rw [List.length_map, hTl])) fun v2 H2 s2 p2 => ?_
    cases dp_int p2
    have R2 := R1.sm0 s2
    have RL2 := RL.sm0 s2
    refine rq_for1 (K := K) (n := A.ls.length) (src_str (l := A.ls) (gd_signs (gv_var rfl) R2 Wm.nil)) (fun i σ' H' => ∃ (w3 w4 w5 w6 : Option V), σ' = [some (.ref p), some (.ref q1), some (.int (B.n : Int)), w3, w4, w5, w6] ∧ ∀ x ∈ B.ls.take i, mergeI B Tx x = none)
      (fun H3 s3 => ⟨none, none, none, none, rfl, by simp⟩) (fun i x σ' H' N hi s hP hx kk => ?_) fun σ' H' s hP => ?_
    · obtain ⟨w3, w4, w5, w6, rfl, hno⟩ := hP
      cases dp_str hx
      rw [← hBl] at hi ⊢
      have hc := ls_getD hi
      have RL3 := RL2.sm0 s
      refine rq_asg (gd_lrow (K := K) (gv_var rfl) RL3 (gd_vs rfl) hc) fun v4 H4 s4 p4 => ?_
      refine r_for1 (K := K) (n := B.n) (src_range1 (n := B.n) (ga_cons (gd_vi rfl) ga_nil) (by omega)) (fun j σ'' H'' => ∃ (w5 w6 : Option V), σ'' = [some (.ref p), some (.ref q1), some (.int (B.n : Int)), some (.str (tx [B.ls.getD i 0])), some v4, w5, w6] ∧ ∀ x ∈ (List.range B.n).take j, mergeJ B Tx (B.ls.getD i 0) x = none)
        (fun H5 s5 => ⟨w5, w6, rfl, by simp⟩) (fun j x σ'' H'' N' hj s5 hP5 hx kk2 => ?_) fun σ'' H'' s5 hP5 => ?_
      · obtain ⟨w5, w6, rfl, hno5⟩ := hP5
        cases dp_int hx
        have ejr : (List.range B.n)[j]? = some j := List.getElem?_range hj
        refine r_for1 (K := K) (n := B.n - (j + 1)) (E := fun z => .int ((j + 1 + z : Nat) : Int)) (src_of (src_range2 (lo := ((j + 1 : Nat) : Int)) (hi := (B.n : Int)) (n := B.n - (j + 1)) (ga_cons (Gets.is (gd_add (gd_vi (n := (j : Int)) rfl) gd_i) (by congr 1)) (ga_cons (gd_vi rfl) ga_nil)) ⟨by omega, by omega, by omega, by omega⟩ (by omega)) rfl fun z hz => by congr 1)
          (fun z σ3 H3 => ∃ w6 : Option V, σ3 = [some (.ref p), some (.ref q1), some (.int (B.n : Int)), some (.str (tx [B.ls.getD i 0])), some v4, some (.int (j : Int)), w6] ∧ ∀ y < z, B.mv (B.ls.getD i 0) (j + 1 + y) ≠ B.mv (B.ls.getD i 0) j)
          (fun H6 s6 => ⟨w6, rfl, fun y hy => by omega⟩) (fun z x σ3 H6 N3 hz s6 hP6 hx kk3 => ?_) fun σ3 H6 s6 hP6 => ?_
        · obtain ⟨w6, rfl, hno6⟩ := hP6
          cases dp_int hx
          have p46 := dp_sm0 (s5.trans s6) p4
          refine r_if (b := decide (B.mv (B.ls.getD i 0) j = B.mv (B.ls.getD i 0) (j + 1 + z))) (GetsT.is (gt_test (K := K) (gd_op (gd_ixT (n := j) (gd_var rfl Wm.nil p46) (gd_vi rfl) (rowD_get (row_get okB hc hj))) (gd_ixT (n := j + 1 + z) (gd_var rfl Wm.nil p46) (gd_vi rfl) (rowD_get (row_get okB hc (show j + 1 + z < B.n by omega)))) rd_eqI)) (decide_eq_decide.mpr Int.ofNat_inj)) (fun h H7 s7 => ?_) fun h H7 s7 => ?_
          · have heq := of_decide_eq_true h
            have s27 := (((s.trans s4).trans s5).trans s6).trans s7
            have RL7 := RL2.sm0 s27
            refine r_ret (gd_tup (ds := [.str (tx [B.ls.getD i 0]), .str (tx (Tx.getD j [])), .str (tx (Tx.getD (j + 1 + z) []))]) (ga_cons (K := K) (gd_vs rfl) (ga_cons (gd_ixL (n := j) (gd_lines (gv_var rfl) RL7) (gd_vi rfl) (texts_at (by omega))) (ga_cons (gd_ixL (n := j + 1 + z) (gd_lines (gv_var rfl) RL7) (gd_vi rfl) (texts_at (by omega))) ga_nil))) (show 3 ≤ 100000 by omega)) fun v8 H8 s8 p8 => ?_
            refine q B Tx v8 H8 L (((s1.trans s2).trans s27).trans s8) ?_
            have emJ : mergeJ B Tx (B.ls.getD i 0) j = some (B.ls.getD i 0, Tx.getD j [], Tx.getD (j + 1 + z) []) := by
              unfold mergeJ
              have e1 : List.range' (j + 1) (B.n - (j + 1)) = List.range' (j + 1) z ++ (j + 1 + z) :: List.range' (j + 1 + z + 1) (B.n - (j + 1) - z - 1) := by
                rw [show B.n - (j + 1) = z + ((B.n - (j + 1) - z - 1) + 1) by omega, ← List.range'_append_1, List.range'_succ]
                congr 2
                congr 1
                omega
              have e2 : (List.range' (j + 1) z).filter (fun y => decide (B.mv (B.ls.getD i 0) y = B.mv (B.ls.getD i 0) j)) = [] := by
                rw [List.filter_eq_nil_iff]
                intro y hy
                have := List.mem_range'_1.mp hy
                have hne := hno6 (y - (j + 1)) (by omega)
                rw [show j + 1 + (y - (j + 1)) = y by omega] at hne
                simpa using hne
              rw [e1, List.filter_append, e2, List.nil_append, List.filter_cons_of_pos (by simpa using heq.symm)]
              rfl
            have e : mergeOf B Tx = some (B.ls.getD i 0, Tx.getD j [], Tx.getD (j + 1 + z) []) := by
              refine findSome_at (i := i) (a := B.ls.getD i 0) (by rw [List.getElem?_eq_getElem hi, getD_of hi]) ?_ hno
              exact findSome_at (i := j) (a := j) ejr emJ hno5
            rw [e]
            exact p8
          · have hne := of_decide_eq_false h
            refine kk3 _ _ s7 ⟨_, rfl, fun y hy => ?_⟩
            by_cases e : y = z
            · subst e; exact fun h => hne h.symm
            · exact hno6 y (by omega)
        · obtain ⟨w6, rfl, hno6⟩ := hP6
          refine kk2 _ _ s6 ⟨_, _, rfl, fun x hx => ?_⟩
          rw [List.take_add_one, ejr] at hx
          rcases List.mem_append.mp hx with hx | hx
          · exact hno5 x hx
          · have e : x = j := by simpa using hx
            subst e
            unfold mergeJ
            rw [List.filter_eq_nil_iff.mpr fun y hy => ?_]
            · rfl
            · have := List.mem_range'_1.mp hy
              have hne := hno6 (y - (x + 1)) (by omega)
              rw [show x + 1 + (y - (x + 1)) = y by omega] at hne
              simpa using hne
      · obtain ⟨w5, w6, rfl, hno5⟩ := hP5
        rw [List.take_of_length_le (by simp)] at hno5
        refine kk _ _ (s4.trans s5) ⟨_, _, _, _, rfl, fun x hx => ?_⟩
        rw [List.take_add_one, List.getElem?_eq_getElem hi] at hx
        rcases List.mem_append.mp hx with hx | hx
        · exact hno x hx
        · have e : x = B.ls.getD i 0 := by rw [getD_of hi]; simpa using hx
          subst e
          exact List.findSome?_eq_none_iff.mpr hno5
    · obtain ⟨w3, w4, w5, w6, rfl, hno⟩ := hP
      rw [← hBl, List.take_length] at hno
      refine r_ret (K29.gd_n (K := K)) fun v H5 s6 p6 => q B Tx v H5 L (((s1.trans s2).trans s).trans s6) ?_
      have e : mergeOf B Tx = none := List.findSome?_eq_none_iff.mpr hno
      rw [e]
      exact p6
end
end K29
namespace K29
open PySem PySem.Spec PyProof.Rows L2

/-! ints of which something is known -/
def CPowB (i j : Int) : Prop := 0 ≤ j ∧ (Builtin.Int.intBits i : Int) * j ≤ 2 ^ 27
theorem op_powB {X : Cx} : OpR X (binaryOp .Pow) (rI CPowB fun i j => .int (i ^ j.toNat)) := opI fun _ _ _ _ _ _ _ hc q => pow_int hc.1 hc.2 q
abbrev GdZ (m : List Addr) (te : TE) (σ : L2.St) (H : Hp) (p : Int → Prop) : Prop := Gets m te σ H fun v _ => ∃ i : Int, v = .int i ∧ p i
section
variable {K : PySem.W.Frag} {m : List Addr} {σ : L2.St} {H H' : Hp} {ta tb te : TE} {t : TA} {p q r : Int → Prop} {g : Int → Int → Int} {C : Int → Int → Prop}
theorem gz_c {i : Int} : GdZ m (tC (.int i)) σ H (fun x => x = i) := gv_c.imp fun v H1 _ _ e => ⟨i, e, rfl⟩
theorem gz_v {n : Nat} {i : Int} (h : σ[n]? = some (some (.int i))) : GdZ m (tVar n) σ H (fun x => x = i) := (gv_var h).imp fun v H1 _ _ e => ⟨i, e, rfl⟩
theorem gz_op (ha : GdZ m ta σ H p) (hb : GdZ m tb σ H q) (hc : ∀ i j, p i → q j → C i j) (hr : ∀ i j, p i → q j → r (g i j)) : GdZ m (tOp (rI C fun i j => .int (g i j)) ta tb) σ H r := fun H1 s1 w1 Q k =>
  ha H1 s1 w1 _ fun x H2 s2 w2 ⟨i, e, hi⟩ => hb H2 (s1.trans s2) w2 _ fun y H3 s3 w3 ⟨j, e', hj⟩ => ⟨i, j, e, e', hc i j hi hj, k _ H3 (s2.trans s3) w3 ⟨_, rfl, hr i j hi hj⟩⟩
theorem gz_op0 (ha : GdZ m ta σ H p) (hb : GdZ m tb σ H q) (hr : ∀ i j, p i → q j → r (g i j)) : GdZ m (tOp (rI0 fun i j => .int (g i j)) ta tb) σ H r := fun H1 s1 w1 Q k =>
  ha H1 s1 w1 _ fun x H2 s2 w2 ⟨i, e, hi⟩ => hb H2 (s1.trans s2) w2 _ fun y H3 s3 w3 ⟨j, e', hj⟩ => ⟨i, j, e, e', k _ H3 (s2.trans s3) w3 ⟨_, rfl, hr i j hi hj⟩⟩
theorem gz_int (h : GdZ m ta σ H p) : GdZ m (tCB (fun xs H Q => (∃ i, xs = [V.int i] ∧ Q (.int i) H) ∨ ∃ k, xs = [V.bl k] ∧ Q (.int (if k then 1 else 0)) H) (tCons ta tNil)) σ H p := fun H1 s1 w1 Q k =>
  h H1 s1 w1 _ fun x H2 s2 w2 ⟨i, e, hi⟩ => .inl ⟨i, by rw [e], k _ H2 s2 w2 ⟨i, rfl, hi⟩⟩
theorem gz_intB {b : Bool} (h : Gd default m ta σ H (.bool b)) : GdZ m (tCB (fun xs H Q => (∃ i, xs = [V.int i] ∧ Q (.int i) H) ∨ ∃ k, xs = [V.bl k] ∧ Q (.int (if k then 1 else 0)) H) (tCons ta tNil)) σ H (fun _ => True) := fun H1 s1 w1 Q k =>
  h H1 s1 w1 _ fun x H2 s2 w2 e => by
    cases e
    exact .inr ⟨b, rfl, k _ H2 s2 w2 ⟨_, rfl, trivial⟩⟩
theorem gz_abs (h : GdZ m ta σ H p) : GdZ m (tCB (fun xs H Q => ∃ i, xs = [V.int i] ∧ Q (.int (if i < 0 then -i else i)) H) (tCons ta tNil)) σ H (fun _ => True) := fun H1 s1 w1 Q k =>
  h H1 s1 w1 _ fun x H2 s2 w2 ⟨i, e, hi⟩ => ⟨i, by rw [e], k _ H2 s2 w2 ⟨_, rfl, trivial⟩⟩
theorem gz_max (ha : GdZ m ta σ H p) (hb : GdZ m tb σ H q) : GdZ m (tCB (fun xs H Q => ∃ i j, xs = [V.int i, V.int j] ∧ Q (.int (if j > i then j else i)) H) (tCons ta (tCons tb tNil))) σ H (fun _ => True) := fun H1 s1 w1 Q k =>
  ha H1 s1 w1 _ fun x H2 s2 w2 ⟨i, e, hi⟩ => hb H2 (s1.trans s2) w2 _ fun y H3 s3 w3 ⟨j, e', hj⟩ => ⟨i, j, by rw [e, e'], k _ H3 (s2.trans s3) w3 ⟨_, rfl, trivial⟩⟩
theorem Sm.cup {H H' : Hp} {c : Addr} {o : HO} (s : Sm [] H H') : Sm [c] H (upd H' c o) := fun b ob hb ho => by
  rw [upd_ne (fun e => hb (by simp [e]))]
  exact s b ob (by simp) ho
theorem gets_cup (h : GetsA [] t σ H (fun vs _ => ∃ i j k : Int, vs = [.int i, .int j, .int k])) : Gets [] (tLst t) σ H (fun v H' => ∃ c, v = .ref c ∧ H c = none ∧ IsCup H' c) := fun H1 s1 w1 Q k =>
  h H1 s1 w1 _ fun vs H2 s2 w2 ⟨i, j, l, e⟩ => by
    subst e
    exact ⟨show 3 ≤ sizeLine by decide, fun c hc => k _ _ (s2.trans (Sm.new hc)) Wm.nil ⟨c, rfl, (s1.trans s2).free Wm.nil Wm.nil hc, i, j, l, upd_same⟩⟩
theorem gz_cup {c : Addr} {i0 i1 i2 : Int} {n : Nat} {k : Nat} {z : Int} (hc : H c = some (.lst [.int i0, .int i1, .int i2])) (hn : σ[n]? = some (some (.ref c))) (hk : ([V.int i0, V.int i1, V.int i2])[k]? = some (V.int z)) : GdZ [] (tOp (rIxL K) (tVar n) (tC (.int (k : Int)))) σ H (fun _ => True) := fun H1 s1 w1 Q q =>
  ⟨.ref c, hn, c, _, (k : Int), .int z, rfl, rfl, SqL.of (s1 _ _ (by simp) hc), atI_nat hk, q _ H1 (Sm.refl _ _) w1 ⟨z, rfl, trivial⟩⟩
theorem gd_cup0 {c : Addr} {i0 i1 i2 : Int} {n : Nat} (hc : H c = some (.lst [.int i0, .int i1, .int i2])) (hn : σ[n]? = some (some (.ref c))) : Gd K [] (tOp (rIxL K) (tVar n) (tC (.int 0))) σ H (.int i0) := fun H1 s1 w1 Q q =>
  ⟨.ref c, hn, c, _, 0, .int i0, rfl, rfl, SqL.of (s1 _ _ (by simp) hc), rfl, q _ H1 (Sm.refl _ _) w1 (.int _)⟩
theorem gz_t (h : GdZ m te σ H p) : GdZ m te σ H (fun _ => True) := h.imp fun v H1 _ _ ⟨i, e, _⟩ => ⟨i, e, trivial⟩
theorem GdZ.w (h : GdZ m te σ H p) (f : ∀ i, p i → q i) : GdZ m te σ H q := h.imp fun v H1 _ _ ⟨i, e, hi⟩ => ⟨i, e, f i hi⟩
end
theorem rq_cup {K : PySem.W.Frag} {σ : L2.St} {H : Hp} {te : TE} {u : TS} {D : Ends} {c : Addr} {xs : List V} {a n : Nat} {p : Int → Prop} (hc : H c = some (.lst xs)) (h : GdZ [] te σ H p) (ha : σ[a]? = some (some (.ref c))) (hn : n < xs.length) (k : ∀ x H1, Sm [] H H1 → p x → u D σ (upd H1 c (.lst (xs.set n (.int x))))) :
    tSeq (tAsg te (gSub (tVar a) (tC (.int (n : Int))) rSetL)) u D σ H :=
  h.go (Q := fun x H1 => gSub (tVar a) (tC (.int (n : Int))) rSetL x σ H1 (u D)) fun v H1 s1 ⟨x, e, hx⟩ => by
    subst e
    refine ⟨.ref c, ha, c, xs, (n : Int), n, rfl, rfl, s1 _ _ (by simp) hc, ?_, k x H1 s1 hx⟩
    unfold ixN
    rw [if_pos (by omega)]
    simp
    omega
section
variable {P : Program} {w : World} {K : PySem.W.Frag} {mg : Str → Option Value} {base : Heap} {f C : Addr} {fd : FuncData}
abbrev N__law_cup : List Str := ["_law_script", "_law_at", "_law_cell", "_law_great", "_law_blend"]
theorem sc__law_cup : FnScope N__law_cup ["_law_script", "_law_at"] (defScope s__law_cup) := ⟨rfl, rfl, rfl, by decide +kernel, rfl, by decide +kernel, by decide +kernel⟩
def sp_cup (K : PySem.W.Frag) : Sp := fun vs H Q _ => ∃ (a : Addr) (ns : List Int) (at_ : Nat), vs = [.ref a, .int (at_ : Int)] ∧ SqL K H a (ns.map V.int) ∧ at_ < 2 ∧ ∀ c H', H c = none → Sm [] H H' → IsCup H' c → Q (.ref c) H'
theorem ok_cup (F : Fun K "_law_cup" "_law_cup" s__law_cup f fd) (T : Txt K mg C) : FnOk P w K mg base CX0 1 f fd ["_law_script", "_law_at"] (sp_cup K) := by
  refine F.ok sc__law_cup (fun vs H Q E h => ?_) (fun cdv A outer s H vs Q E hr h => ?_)
  · obtain ⟨a, ns, i, rfl, _⟩ := h
    rfl
  · obtain ⟨a, ns, i, rfl, hs, hi, q⟩ := h
    have nd := sc__law_cup.nd
    refine ⟨_, (pss_cons  (ps_set (i := 2) nd rfl (.inl rfl) (pe_ifExp (pt_cmpR op_lt (pv 1) (pe_callB (lenSeq_ K) (by rfl) T.len PySem.boot_len (pa_cons (pv 0) pa_nil)) (nomark _)) (pe_ix (ixL_ K) (pv 0) (pv 1) (fun _ _ => rfl)) (pe_op op_add (pe_op op_mul pe_int (pv 1)) pe_int)))
  (pss_cons  (ps_set (i := 3) nd rfl (.inl rfl) (pe_op op_modN (pe_callTy call_int1 (by rfl) T.int (by decide +kernel) (pa_cons (pe_callB call_abs (by rfl) T.abs (by decide +kernel) (pa_cons (pv 2) pa_nil)) pa_nil)) (pe_op op_powB (pe_op op_pow pe_int pe_int) pe_int)))
  (pss_cons  (ps_set (i := 4) nd rfl (.inl rfl) (pe_op op_add (pe_op op_add (pe_op op_add (pe_op op_mul (pe_op op_modN (pe_callTy call_int1 (by rfl) T.int (by decide +kernel) (pa_cons (pv 3) pa_nil)) pe_int) pe_int) (pe_op op_mul pe_int (pv 1))) (pe_op op_mul pe_int (pe_callTy call_int1 (by rfl) T.int (by decide +kernel) (pa_cons (pe_cmpR op_lt (pv 2) pe_int (nomark _)) pa_nil)))) pe_int))
  (pss_one  (ps_ret (pe_lst (pa_cons (pe_callB (call_max2 rfl) (by rfl) T.max (by decide +kernel) (pa_cons pe_int (pa_cons (pe_op op_sub (pv 3) (pe_op op_pow pe_int pe_int)) pa_nil))) (pa_cons (pe_op op_modN (pe_callTy call_int1 (by rfl) T.int (by decide +kernel) (pa_cons (pv 4) pa_nil)) pe_int) (pa_cons pe_int pa_nil))))))))), ?_⟩
    have hlen : Gd K [] (tCB (rLenSeq K) (tCons (tVar 0) tNil)) (start N__law_cup [.ref a, .int (i : Int)]) H (.int (ns.length : Int)) := gd_cb (gA_v (gv_var rfl) gA_nil) fun vs H1 s1 w1 e Q k => by
      subst e
      refine ⟨a, _, rfl, .inl (s1.lst (by simp) hs), ?_⟩
      rw [List.length_map]
      exact k _ H1 (Sm.refl _ _) w1 (.int _)
    refine rq_asg (P := fun v _ => ∃ z : Int, v = .int z ∧ True) (gd_if (b := decide ((i : Int) < (ns.length : Int))) (gt_test (K := K) (gd_lt (gd_vi rfl) hlen)) (fun h => ?_) fun _ => gz_op0 (gz_op (r := fun _ => True) gz_c (gz_v rfl) (fun i j h1 h2 => .inl ⟨by omega, by omega⟩) fun _ _ _ _ => trivial) gz_c fun _ _ _ _ => trivial) fun v1 H1 s1 p1 => ?_
    · have hlt : i < ns.length := by have := of_decide_eq_true h; omega
      intro H1 s1 w1 Q k
      refine ⟨.ref a, rfl, .int (i : Int), rfl, a, ns.map V.int, i, V.int ns[i], rfl, rfl, s1.lst (by simp) hs, atI_nat (by rw [List.getElem?_map, List.getElem?_eq_getElem hlt]; rfl), k _ H1 (Sm.refl _ _) w1 ⟨_, rfl, trivial⟩⟩
    · obtain ⟨z, rfl, _⟩ := p1
      refine rq_asg (P := fun v _ => ∃ z : Int, v = .int z ∧ True) (gz_op (p := fun _ => True) (q := fun j => j ≠ 0) (gz_int (gz_abs (gz_v rfl))) (gz_op (p := fun i => i = 10 ^ 61) (q := fun j => j = 11) (gz_op gz_c gz_c (fun i j h1 h2 => ⟨by omega, by omega, by omega⟩) fun i j h1 h2 => by rw [h1, h2]; rfl) gz_c (fun i j h1 h2 => ⟨by omega, by rw [h1, h2]; decide +kernel⟩) fun i j h1 h2 => by rw [h1, h2]; decide +kernel) (fun i j _ h => h) fun _ _ _ _ => trivial) fun v2 H2 s2 p2 => ?_
      obtain ⟨y, rfl, _⟩ := p2
      refine rq_asg (P := fun v _ => ∃ z : Int, v = .int z ∧ True) (gz_op0 (p := fun _ => True) (q := fun _ => True) (gz_op0 (p := fun _ => True) (q := fun _ => True) (gz_op0 (p := fun _ => True) (q := fun _ => True) (gz_op (p := fun _ => True) (q := fun j => j = 99317) (gz_op (p := fun i => True) (q := fun j => j = 2147483179) (gz_int (gz_t (gz_v rfl))) gz_c (fun i j _ h => by omega) fun _ _ _ _ => trivial) gz_c (fun i j _ h => .inr ⟨by omega, by omega⟩) fun _ _ _ _ => trivial) (gz_op (q := fun _ => True) (gz_c (i := 9431)) (gz_t (gz_v rfl)) (fun i j h _ => .inl ⟨by omega, by omega⟩) fun _ _ _ _ => trivial) fun _ _ _ _ => trivial) (gz_op (q := fun _ => True) (gz_c (i := 53)) (gz_intB (gd_lt (gd_vi rfl) gd_i)) (fun i j h _ => .inl ⟨by omega, by omega⟩) fun _ _ _ _ => trivial) fun _ _ _ _ => trivial) (gz_t gz_c) fun _ _ _ _ => trivial) fun v3 H3 s3 p3 => ?_
      obtain ⟨x, rfl, _⟩ := p3
      have e1 : GdZ [] (tCB (fun xs H Q => ∃ i j, xs = [V.int i, V.int j] ∧ Q (.int (if j > i then j else i)) H) (tCons (tC (.int 0)) (tCons (tOp (rI0 fun i j => .int (i - j)) (tVar 3) (tOp (rI CPow fun i j => .int (i ^ j.toNat)) (tC (.int 10)) (tC (.int 18)))) tNil))) ((((start N__law_cup [.ref a, .int (i : Int)]).set 2 (some (.int z))).set 3 (some (.int y))).set 4 (some (.int x))) H3 (fun _ => True) :=
        gz_max gz_c (gz_op0 (r := fun _ => True) (gz_v rfl) (gz_op (r := fun _ => True) gz_c gz_c (fun i j h1 h2 => ⟨by omega, by omega, by omega⟩) fun _ _ _ _ => trivial) fun _ _ _ _ => trivial)
      have e2 : GdZ [] (tOp (rI (fun _ j => j ≠ 0) fun i j => .int (i.fmod j)) (tCB (fun xs H Q => (∃ i, xs = [V.int i] ∧ Q (.int i) H) ∨ ∃ k, xs = [V.bl k] ∧ Q (.int (if k then 1 else 0)) H) (tCons (tVar 4) tNil)) (tC (.int 2305843009213693907))) ((((start N__law_cup [.ref a, .int (i : Int)]).set 2 (some (.int z))).set 3 (some (.int y))).set 4 (some (.int x))) H3 (fun _ => True) :=
        gz_op (gz_int (gz_v rfl)) gz_c (fun i j _ h => by omega) fun _ _ _ _ => trivial
      refine r_ret (gets_cup (GetsA.imp (gA_cons e1 (fun _ _ _ _ _ h => h) (gA_cons e2 (fun _ _ _ _ _ h => h) (gA_cons (gz_c (i := 0)) (fun _ _ _ _ _ h => h) gA_nil))) fun vs H4 _ _ h => ?_)) fun v H4 s4 p4 => ?_
      · obtain ⟨_, _, rfl, ⟨u1, rfl, _⟩, _, _, rfl, ⟨u2, rfl, _⟩, _, _, rfl, ⟨u3, rfl, _⟩, rfl⟩ := h
        exact ⟨_, _, _, rfl⟩
      · obtain ⟨c, rfl, hc, hcup⟩ := p4
        have sall := (s1.trans s2).trans s3
        exact q c H4 (sall.free Wm.nil Wm.nil hc) (sall.trans s4) hcup
abbrev N__law_bit : List Str := ["_law_cup_here", "_law_much", "_law_found", "_law_first", "_law_later"]
theorem sc__law_bit : FnScope N__law_bit ["_law_cup_here", "_law_much"] (defScope s__law_bit) := ⟨rfl, rfl, rfl, by decide +kernel, rfl, by decide +kernel, by decide +kernel⟩
def sp_bit : Sp := fun vs H Q _ => ∃ (c : Addr) (n : Nat), vs = [.ref c, .int (n : Int)] ∧ IsCup H c ∧ 1 ≤ n ∧ n ≤ 100000 ∧ ∀ (r : Nat) H', r < n → Sm [c] H H' → IsCup H' c → Q (.int (r : Int)) H'
theorem ok_bit (F : Fun K "_law_bit" "_law_bit" s__law_bit f fd) (T : Txt K mg C) : FnOk P w K mg base CX0 1 f fd ["_law_cup_here", "_law_much"] sp_bit := by
  refine F.ok sc__law_bit (fun vs H Q E h => ?_) (fun cdv A outer s H vs Q E hr h => ?_)
  · obtain ⟨c, n, rfl, _⟩ := h
    rfl
  · obtain ⟨c, n, rfl, ⟨i, j, k, hc⟩, hn, hn2, q⟩ := h
    have nd := sc__law_bit.nd
    refine ⟨_, (pss_cons  (ps_if (pt_cmpR op_gt (pe_ix (ixL_ K) (pv 0) pe_int (fun _ _ => rfl)) pe_int (nomark _)) 
    (pss_cons  (ps_set (i := 2) nd rfl (.inl rfl) (pe_op op_modN (pe_callTy call_int1 (by rfl) T.int (by decide +kernel) (pa_cons (pe_ix (ixL_ K) (pv 0) pe_int (fun _ _ => rfl)) pa_nil)) (pv 1)))
    (pss_cons  (ps_asg (pe_op op_fdivN (pe_ix (ixL_ K) (pv 0) pe_int (fun _ _ => rfl)) (pv 1)) (pg_sub (pv 0) pe_int set_list))
    (pss_one  (ps_ret (pv 2))))) pss_nil)
  (pss_cons  (ps_asg (pe_op op_add (pe_ix (ixL_ K) (pv 0) pe_int (fun _ _ => rfl)) pe_int) (pg_sub (pv 0) pe_int set_list))
  (pss_cons  (ps_set (i := 3) nd rfl (.inl rfl) (pe_op op_modN (pe_callTy call_int1 (by rfl) T.int (by decide +kernel) (pa_cons (pe_op op_add (pe_ix (ixL_ K) (pv 0) pe_int (fun _ _ => rfl)) (pe_op op_mul pe_int (pe_ix (ixL_ K) (pv 0) pe_int (fun _ _ => rfl)))) pa_nil)) pe_int))
  (pss_cons  (ps_set (i := 4) nd rfl (.inl rfl) (pe_op op_add (pe_op op_mul (pe_op op_modN (pe_callTy call_int1 (by rfl) T.int (by decide +kernel) (pa_cons (pe_op op_mul (pv 3) (pv 3)) pa_nil)) pe_int) (pv 3)) (pe_op op_mul pe_int (pe_ix (ixL_ K) (pv 0) pe_int (fun _ _ => rfl)))))
  (pss_one  (ps_ret (pe_op op_modN (pe_callTy call_int1 (by rfl) T.int (by decide +kernel) (pa_cons (pe_op op_fdivN (pe_op op_modN (pe_callTy call_int1 (by rfl) T.int (by decide +kernel) (pa_cons (pv 4) pa_nil)) pe_int) pe_int) pa_nil)) (pv 1)))))))), ?_⟩
    have hnn : (n : Int) ≠ 0 := by omega
    have hmod : ∀ z : Int, 0 ≤ z.fmod (n : Int) ∧ z.fmod (n : Int) < (n : Int) := fun z => ⟨Int.fmod_nonneg_of_pos z (by omega), Int.fmod_lt_of_pos z (by omega)⟩
    refine rq_if (b := decide (0 < i)) (gt_test (K := K) (gd_gt (gd_cup0 hc rfl) gd_i)) (fun h H1 s1 => ?_) fun h H1 s1 => ?_
    · have hc1 := s1 _ _ (by simp) hc
      refine rq_asg (P := fun v _ => ∃ z : Int, v = .int z ∧ 0 ≤ z ∧ z < n) (gz_op (p := fun _ => True) (gz_int (gz_cup (K := K) hc1 rfl (k := 0) rfl)) (gz_v rfl) (fun a b _ h => by omega) fun a b _ h => by rw [h]; exact hmod a) fun v2 H2 s2 p2 => ?_
      obtain ⟨z, rfl, hz1, hz2⟩ := p2
      have hc2 := s2 _ _ (by simp) hc1
      refine rq_cup (K := K) hc2 (gz_op (r := fun _ => True) (gz_cup (K := K) hc2 rfl (k := 0) rfl) (gz_v rfl) (fun a b _ h => ⟨by omega, by omega⟩) fun _ _ _ _ => trivial) rfl (n := 0) (show 0 < 3 by omega) fun x H3 s3 _ => ?_
      refine ⟨.int z, rfl, ?_⟩
      have e : z = ((z.toNat : Nat) : Int) := by omega
      rw [e]
      exact q z.toNat _ (by omega) (((s1.trans s2).trans s3).cup) ⟨x, j, k, upd_same⟩
    · have hc1 := s1 _ _ (by simp) hc
      refine rq_cup (K := K) hc1 (gz_op0 (r := fun _ => True) (gz_cup (K := K) hc1 rfl (k := 2) rfl) gz_c fun _ _ _ _ => trivial) rfl (n := 2) (show 2 < 3 by omega) fun x H2 s2 _ => ?_
      have s12 := (s1.trans s2).cup (c := c) (o := .lst [.int i, .int j, .int x])
      have hc3 : (upd H2 c (.lst [.int i, .int j, .int x])) c = some (.lst [.int i, .int j, .int x]) := upd_same
      show tSeq _ _ _ _ (upd H2 c (.lst [.int i, .int j, .int x]))
      generalize upd H2 c (.lst [.int i, .int j, .int x]) = H3 at *
      refine rq_asg (P := fun v _ => ∃ z : Int, v = .int z ∧ -(2 ^ 64) < z ∧ z < 2 ^ 64) (gz_op (p := fun _ => True) (q := fun b => b = 2305843009213693951) (gz_int (gz_op0 (r := fun _ => True) (gz_cup (K := K) hc3 rfl (k := 1) rfl) (gz_op (r := fun _ => True) gz_c (gz_cup (K := K) hc3 rfl (k := 2) rfl) (fun a b h _ => .inl ⟨by omega, by omega⟩) fun _ _ _ _ => trivial) fun _ _ _ _ => trivial)) gz_c (fun a b _ h => by omega) fun a b _ h => by
        have h1 := Int.fmod_nonneg_of_pos a (b := 2305843009213693951) (by omega)
        have h2 := Int.fmod_lt_of_pos a (b := 2305843009213693951) (by omega)
        rw [h]
        omega) fun v3 H4 s4 p4 => ?_
      obtain ⟨y, rfl, hy1, hy2⟩ := p4
      have hc4 := s4 _ _ (by simp) hc3
      refine rq_asg (P := fun v _ => ∃ z : Int, v = .int z ∧ True) (gz_op0 (p := fun _ => True) (q := fun _ => True) (gz_op (p := fun _ => True) (q := fun b => b = y) (gz_op (p := fun _ => True) (q := fun b => b = 2305843009213693921) (gz_int (gz_op (r := fun _ => True) (gz_v rfl) (gz_v rfl) (fun a b h1 h2 => .inl ⟨by omega, by omega⟩) fun _ _ _ _ => trivial)) gz_c (fun a b _ h => by omega) fun _ _ _ _ => trivial) (gz_v rfl) (fun a b _ h => .inr ⟨by omega, by omega⟩) fun _ _ _ _ => trivial) (gz_op (r := fun _ => True) gz_c (gz_cup (K := K) hc4 rfl (k := 2) rfl) (fun a b h _ => .inl ⟨by omega, by omega⟩) fun _ _ _ _ => trivial) fun _ _ _ _ => trivial) fun v4 H5 s5 p5 => ?_
      obtain ⟨y5, rfl, _⟩ := p5
      refine r_ret (P := fun v _ => ∃ z : Int, v = .int z ∧ 0 ≤ z ∧ z < n) (gz_op (p := fun _ => True) (q := fun b => b = (n : Int)) (gz_int (gz_op (p := fun _ => True) (q := fun b => b = 16384) (gz_op (p := fun _ => True) (q := fun b => b = 2305843009213693907) (gz_int (gz_t (gz_v rfl))) gz_c (fun a b _ h => by omega) fun _ _ _ _ => trivial) gz_c (fun a b _ h => ⟨by omega, by omega⟩) fun _ _ _ _ => trivial)) (gz_v rfl) (fun a b _ h => by omega) fun a b _ h => by rw [h]; exact hmod a) fun v6 H6 s6 p6 => ?_
      obtain ⟨z, rfl, hz1, hz2⟩ := p6
      have e : z = ((z.toNat : Nat) : Int) := by omega
      rw [e]
      have s46 := (s4.trans s5).trans s6
      exact q z.toNat H6 (by omega) (s12.trans s46.weak) ⟨i, j, x, s46 _ _ (by simp) hc3⟩
end
end K29
namespace K29
open PySem PySem.Spec PyProof.Rows L2
section
variable {K : PySem.W.Frag} {m : List Addr} {σ : L2.St} {H H' : Hp} {ta tb te : TE} {t : TA} {c : Addr}
theorem wm1 (h : IsCup H c) : Wm [c] H := fun x hx => by simp at hx; subst hx; exact h
theorem Wm.c1 (h : Wm [c] H) : IsCup H c := h c (by simp)
theorem gets_bit {n : Nat} (ha : Gv [c] ta σ H (.ref c)) (hb : Gd K [c] tb σ H (.int (n : Int))) (h1 : 1 ≤ n) (h2 : n ≤ 100000) : Gets [c] (tCall sp_bit [] E0 (tCons ta (tCons tb tNil))) σ H (fun v _ => ∃ r : Nat, v = .int (r : Int) ∧ r < n) := fun H1 s1 w1 Q k =>
  ha H1 s1 w1 _ fun v H2 s2 w2 e => hb H2 (s1.trans s2) w2 _ fun v2 H3 s3 w3 p => by
    subst e
    cases dp_int p
    exact ⟨c, n, rfl, w3.c1, h1, h2, fun r H4 hr s4 w4 => k _ H4 ((s2.trans s3).trans s4) (wm1 w4) ⟨r, rfl, hr⟩⟩
/-- in the whole of a def: the cup may change -/
theorem r_retC {P : V → Hp → Prop} {D : Ends} (h : Gets [c] te σ H P) (w : IsCup H c) (k : ∀ v H1, Sm [c] H H1 → IsCup H1 c → P v H1 → D.rt v H1) : tRet te D σ H := h.goW (wm1 w) fun v H1 s w p => k v H1 s w.c1 p
theorem rq_asgC {P : V → Hp → Prop} {D : Ends} {u : TS} {i : Nat} (h : Gets [c] te σ H P) (w : IsCup H c) (k : ∀ v H1, Sm [c] H H1 → IsCup H1 c → P v H1 → u D (σ.set i (some v)) H1) : tSeq (tAsg te (gName i)) u D σ H := h.goW (wm1 w) fun v H1 s w p => k v H1 s w.c1 p
end
section
variable {P : Program} {w : World} {K : PySem.W.Frag} {mg : Str → Option Value} {base : Heap} {f C : Addr} {fd : FuncData}
abbrev N__law_pick : List Str := ["_law_cup_here", "_law_items"]
theorem sc__law_pick : FnScope N__law_pick ["_law_cup_here", "_law_items"] (defScope s__law_pick) := ⟨rfl, rfl, rfl, by decide +kernel, rfl, by decide +kernel, by decide +kernel⟩
def sp_pick (K : PySem.W.Frag) : Sp := fun vs H Q _ => ∃ (c : Addr) (v : V), vs = [.ref c, v] ∧ IsCup H c ∧
  ((∃ a xs, v = .ref a ∧ a ≠ c ∧ SqL K H a xs ∧ 1 ≤ xs.length ∧ xs.length ≤ 1000 ∧ ∀ (i : Nat) x H', xs[i]? = some x → Sm [c] H H' → IsCup H' c → Q x H') ∨
   ∃ l : List Nat, v = .str (tx l) ∧ 1 ≤ l.length ∧ l.length ≤ 1000 ∧ ∀ (e : Nat) H', e ∈ l → Sm [c] H H' → IsCup H' c → Q (.str (tx [e])) H')
theorem ok_pick (F : Fun K "_law_pick" "_law_pick" s__law_pick f fd) (T : Txt K mg C) (G_law_bit : Ok1 P w K mg base "_law_bit" ["_law_cup_here", "_law_much"] 1 sp_bit) : FnOk P w K mg base CX0 2 f fd ["_law_cup_here", "_law_items"] (sp_pick K) := by
  refine F.ok sc__law_pick (fun vs H Q E h => ?_) (fun cdv A outer s H vs Q E hr h => ?_)
  · obtain ⟨c, v, rfl, _⟩ := h
    rfl
  · obtain ⟨c, v, rfl, hc, h⟩ := h
    have nd := sc__law_pick.nd
    refine ⟨_, (pss_one (ps_ret (pe_ix (IxR.or (ixL_ K) ix_str) (pv 1) (pe_callP G_law_bit hr (by rfl) (pa_cons (pv 0) (pa_cons (pe_callB (CallR.or (lenSeq_ K) call_len_str) (by rfl) T.len PySem.boot_len (pa_cons (pv 1) pa_nil)) pa_nil))) (fun _ _ => rfl)))), ?_⟩
    rcases h with ⟨a, xs, rfl, hne, ha, h1, h2, q⟩ | ⟨l, rfl, h1, h2, q⟩
    · refine ⟨.ref a, rfl, .ref c, rfl, .ref a, rfl, .inl ⟨a, xs, rfl, .inl ha, c, xs.length, rfl, hc, h1, by omega, fun r H' hr s hc' => .inl ?_⟩⟩
      obtain ⟨x, hx⟩ : ∃ x, xs[r]? = some x := ⟨_, List.getElem?_eq_getElem hr⟩
      exact ⟨a, xs, (r : Int), x, rfl, rfl, s.lst (by simpa using hne) ha, atI_nat hx, q r x H' hx s hc'⟩
    · refine ⟨.str (tx l), rfl, .ref c, rfl, .str (tx l), rfl, .inr ⟨tx l, rfl, Nat.le_trans (m := 1000) h2 (by decide), c, l.length, rfl, hc, h1, by omega, fun r H' hr s hc' => .inr ?_⟩⟩
      refine ⟨tx l, (r : Int), l[r], rfl, rfl, Nat.le_trans (m := 1000) h2 (by decide), ?_, q _ H' (List.getElem_mem hr) s hc'⟩
      rw [tx_list]
      exact atI_nat (List.getElem?_eq_getElem hr)
section
variable {σ : L2.St} {H : Hp} {ta tb te : TE} {c : Addr}
theorem gets_pickT {l : List Nat} (ha : Gv [c] ta σ H (.ref c)) (hb : Gd K [c] tb σ H (.str (tx l))) (h1 : 1 ≤ l.length) (h2 : l.length ≤ 1000) : Gets [c] (tCall (sp_pick K) [] E0 (tCons ta (tCons tb tNil))) σ H (fun v _ => ∃ e ∈ l, v = .str (tx [e])) := fun H1 s1 w1 Q k =>
  ha H1 s1 w1 _ fun v H2 s2 w2 e => hb H2 (s1.trans s2) w2 _ fun v2 H3 s3 w3 p => by
    subst e
    cases dp_str p
    exact ⟨c, _, rfl, w3.c1, .inr ⟨l, rfl, h1, h2, fun e H4 he s4 w4 => k _ H4 ((s2.trans s3).trans s4) (wm1 w4) ⟨e, he, rfl⟩⟩⟩
/-- from a list that is new -/
theorem gets_pickN {t : TA} {PA : List V → Hp → Prop} {PX : V → Hp → Prop} (ha : Gv [c] ta σ H (.ref c)) (hb : GetsA [c] t σ H PA) (hl : ∀ vs H1, PA vs H1 → 1 ≤ vs.length ∧ vs.length ≤ 1000) (hx : ∀ vs H1 H2, PA vs H1 → Sm [c] H1 H2 → Wm [c] H1 → ∀ x ∈ vs, PX x H2) :
    Gets [c] (tCall (sp_pick K) [] E0 (tCons ta (tCons (tLst t) tNil))) σ H PX := fun H1 s1 w1 Q k =>
  ha H1 s1 w1 _ fun v H2 s2 w2 e => hb H2 (s1.trans s2) w2 _ fun vs H3 s3 w3 p => by
    subst e
    obtain ⟨h1, h2⟩ := hl vs H3 p
    refine ⟨Nat.le_trans h2 (by decide), fun a haa => ?_⟩
    have sa : Sm [c] H3 (upd H3 a (.lst vs)) := Sm.new haa
    have hne : a ≠ c := fun e => by
      subst e
      obtain ⟨i, j, k, e⟩ := w3.c1
      rw [e] at haa; cases haa
    refine ⟨c, _, rfl, (w3.new haa).c1, .inl ⟨a, vs, rfl, hne, SqL.of upd_same, h1, h2, fun i x H4 hi s4 w4 => k _ H4 (((s2.trans s3).trans sa).trans s4) (wm1 w4) (hx vs H3 H4 p (sa.trans s4) w3 x (List.mem_of_getElem? hi))⟩⟩
end
theorem gets_tupR {m : List Addr} {σ : L2.St} {H : Hp} {te : TE} {PD : List Nat → Prop} (h : Gets m te σ H (fun v H' => ∃ es : List Nat, PD es ∧ Dp K H' v (rowL es))) : Gets m (tCB (rTupOf K) (tCons te tNil)) σ H (fun v H' => ∃ es : List Nat, PD es ∧ Dp K H' v (rowD es)) := fun H1 s1 w1 Q k =>
  h H1 s1 w1 _ fun v H2 s2 w2 ⟨es, hp, hd⟩ => by
    obtain ⟨a, xs, rfl, h1, h2⟩ := dp_lst hd
    have e := rows_inv h2
    subst e
    exact ⟨a, _, rfl, .inl ⟨h1, fun l hl => k _ _ (s2.trans (Sm.new hl)) (w2.new hl) ⟨es, hp, .tup (SqT.of upd_same) (dps_nats es)⟩⟩⟩
abbrev N__law_signs : List Str := ["_law_cup_here"]
theorem sc__law_signs : FnScope N__law_signs ["_law_cup_here"] (defScope s__law_signs) := ⟨rfl, rfl, rfl, by decide +kernel, rfl, by decide +kernel, by decide +kernel⟩
def sp_signs : Sp := fun vs H Q _ => ∃ (c : Addr), vs = [.ref c] ∧ IsCup H c ∧ ∀ (l : List Nat) H', Lts l → Sm [c] H H' → IsCup H' c → Q (.str (tx l)) H'
theorem lts_mem {l : List Nat} (h : l ∈ [[97, 98], [97, 98], [97, 98], [120, 121], [97], [97, 98, 99]]) : Lts l := by
  simp only [List.mem_cons, List.not_mem_nil, or_false] at h
  rcases h with rfl | rfl | rfl | rfl | rfl | rfl <;> exact ⟨by decide, by decide, by decide, by decide⟩
theorem ok_signs (F : Fun K "_law_signs" "_law_signs" s__law_signs f fd) (T : Txt K mg C) (G_law_pick : Ok1 P w K mg base "_law_pick" ["_law_cup_here", "_law_items"] 2 (sp_pick K)) : FnOk P w K mg base CX0 3 f fd ["_law_cup_here"] sp_signs := by
  refine F.ok sc__law_signs (fun vs H Q E h => ?_) (fun cdv A outer s H vs Q E hr h => ?_)
  · obtain ⟨c, rfl, _⟩ := h
    rfl
  · obtain ⟨c, rfl, hc, q⟩ := h
    have nd := sc__law_signs.nd
    refine ⟨_, (pss_one (ps_ret (pe_callP G_law_pick hr (by rfl) (pa_cons (pv 0) (pa_cons (pe_lst (pa_cons pe_str (pa_cons pe_str (pa_cons pe_str (pa_cons pe_str (pa_cons pe_str (pa_cons pe_str pa_nil))))))) pa_nil))))), ?_⟩
    refine r_retC (P := fun v _ => ∃ l ∈ [[97, 98], [97, 98], [97, 98], [120, 121], [97], [97, 98, 99]], v = .str (tx l)) (gets_pickN (PA := fun vs _ => vs = [V.str "ab", V.str "ab", V.str "ab", V.str "xy", V.str "a", V.str "abc"]) (gv_var rfl) (gA_v gv_c (gA_v gv_c (gA_v gv_c (gA_v gv_c (gA_v gv_c (gA_v gv_c gA_nil)))))) (fun vs H1 e => by subst e; exact ⟨by simp, by simp⟩) fun vs H1 H2 e _ _ x hx => ?_) hc fun v H1 s hc' p => ?_
    · subst e
      simp only [List.mem_cons, List.not_mem_nil, or_false] at hx
      rcases hx with rfl | rfl | rfl | rfl | rfl | rfl
      · exact ⟨[97, 98], by simp, by congr 1⟩
      · exact ⟨[97, 98], by simp, by congr 1⟩
      · exact ⟨[97, 98], by simp, by congr 1⟩
      · exact ⟨[120, 121], by simp, by congr 1⟩
      · exact ⟨[97], by simp, by congr 1⟩
      · exact ⟨[97, 98, 99], by simp, by congr 1⟩
    · obtain ⟨l, hl, rfl⟩ := p
      exact q l H1 (lts_mem hl) s hc'
abbrev N__law_line : List Str := ["_law_cup_here", "_law_signs_here", "_law_most", "_law_turn"]
theorem sc__law_line : FnScope N__law_line ["_law_cup_here", "_law_signs_here", "_law_most"] (defScope s__law_line) := ⟨rfl, rfl, rfl, by decide +kernel, rfl, by decide +kernel, by decide +kernel⟩
def sp_line : Sp := fun vs H Q _ => ∃ (c : Addr) (l : List Nat) (n : Nat), vs = [.ref c, .str (tx l), .int (n : Int)] ∧ IsCup H c ∧ Lts l ∧ n ≤ 1000 ∧ ∀ (z : List Nat) H', Over l z → z.length ≤ n → Sm [c] H H' → IsCup H' c → Q (.str (tx z)) H'
abbrev rJoinT (K : PySem.W.Frag) : V → List V → Hp → VK → Prop := fun x xs H Q => ∃ a p, ∃ ys : List Str, x = V.str a ∧ xs = [.ref p] ∧ (SqL K H p (ys.map V.str) ∨ SqT K H p (ys.map V.str)) ∧ (ys.map (·.length)).sum + ys.length * a.length ≤ 16777216 ∧ Q (.str (Txt.join a ys)) H
theorem pe_joinK {X : Cx} {K : PySem.W.Frag} {o e : Expr} {to te : TE} {apos pos : Pos} (ho : PE X o to) (he : PE X e te) (hs : starEach [e] X.env = [(false, eval e X.env)] := by rfl) (hbase : attributeBase o "join" X.env (eval o X.env) = eval o X.env := by rfl) (hline : (apos.endLine == pos.line) = true := by rfl) (hK : X.K = K := by rfl) :
    PE X (.Call (.Attribute o "join" apos) [e] [] pos) (tM1 (rJoinT K) to te) := hK ▸ pe_join ho he hs hbase hline
theorem joinL_nil : ∀ ys : List (List Nat), TL.joinL [] ys = ys.flatten
  | [] => rfl
  | [p] => by simp [TL.joinL]
  | p :: q :: r => by
    show p ++ ([] ++ TL.joinL [] (q :: r)) = _
    rw [joinL_nil (q :: r)]
    simp
theorem flat_one (es : List Nat) : (es.map fun e => [e]).flatten = es := by
  induction es with
  | nil => rfl
  | cons e es ih => rw [List.map_cons, List.flatten_cons, ih]; rfl
theorem join_tx (es : List Nat) : Txt.join "" ((es.map fun e => [e]).map tx) = tx es := by
  have h := SX.join_S [] (es.map fun e => [e])
  rw [joinL_nil, flat_one] at h
  exact h
section
variable {m : List Addr} {σ : L2.St} {H : Hp} {t : TA} {tt : TT} {te ta tb : TE} {g : TG} {vs : List Nat} {c : Addr}
theorem gets_lcRng {PP : V → Hp → Prop} {PR : Nat → Prop} (h : GetsA m t σ H (fun us _ => ∃ r : Nat, us = [.int (r : Int)] ∧ PR r)) (k : ∀ r H1, PR r → Sm m H H1 → Wm m H1 → Gets m (tLc (iRng1 (tCons (tC (.int (r : Int))) tNil)) g tt te vs) σ H1 PP) : Gets m (tLc (iRng1 t) g tt te vs) σ H PP := fun H1 s1 w1 Q q =>
  h H1 s1 w1 _ fun us H2 s2 w2 ⟨r, e, hr⟩ => by
    subst e
    exact (k r H2 hr (s1.trans s2) w2) H2 (Sm.refl _ _) w2 Q fun v H3 s3 w3 p => q v H3 (s2.trans s3) w3 p
theorem dps_tx1 {K : PySem.W.Frag} {H : Hp} : ∀ {us : List V} {es : List Nat}, DpAll K H us (es.map fun e => PyData.str (tx [e])) → us = ((es.map fun e => [e]).map tx).map V.str
  | [], [], _ => rfl
  | [], _ :: _, h => by cases h
  | _ :: _, [], h => by cases h
  | u :: us, e :: es, h => by
    rw [List.map_cons] at h
    cases h with
    | cons h1 h2 =>
      rw [dps_tx1 h2, dp_str h1]
      rfl
theorem sum_one (es : List Nat) : (((es.map fun e => [e]).map tx).map (·.length)).sum = es.length := by
  induction es with
  | nil => rfl
  | cons e es ih =>
    simp only [List.map_cons, List.sum_cons, List.length_cons, tx_len] at ih ⊢
    rw [ih]
    simp
    omega
theorem gets_line {l : List Nat} {n : Nat} {tc : TE} (ha : Gv [c] ta σ H (.ref c)) (hb : Gd K [c] tb σ H (.str (tx l))) (hc : Gd K [c] tc σ H (.int (n : Int))) (L : Lts l) (hn : n ≤ 1000) : Gets [c] (tCall sp_line [] E0 (tCons ta (tCons tb (tCons tc tNil)))) σ H (fun v _ => ∃ z, v = .str (tx z) ∧ Over l z ∧ z.length ≤ n) := fun H1 s1 w1 Q k =>
  ha H1 s1 w1 _ fun v H2 s2 w2 e => hb H2 (s1.trans s2) w2 _ fun v2 H3 s3 w3 p => hc H3 ((s1.trans s2).trans s3) w3 _ fun v3 H4 s4 w4 p3 => by
    subst e
    cases dp_str p
    cases dp_int p3
    exact ⟨c, l, n, rfl, w4.c1, L, hn, fun z H5 h1 h2 s5 w5 => k _ H5 (((s2.trans s3).trans s4).trans s5) (wm1 w5) ⟨z, rfl, h1, h2⟩⟩
end
theorem ok_line (F : Fun K "_law_line" "_law_line" s__law_line f fd) (T : Txt K mg C) (G_law_bit : Ok1 P w K mg base "_law_bit" ["_law_cup_here", "_law_much"] 1 sp_bit) (G_law_pick : Ok1 P w K mg base "_law_pick" ["_law_cup_here", "_law_items"] 2 (sp_pick K)) : FnOk P w K mg base CX0 3 f fd ["_law_cup_here", "_law_signs_here", "_law_most"] sp_line := by
  refine F.ok sc__law_line (fun vs H Q E h => ?_) (fun cdv A outer s H vs Q E hr h => ?_)
  · obtain ⟨c, l, n, rfl, _⟩ := h
    rfl
  · obtain ⟨c, l, n, rfl, hc, L, hn, q⟩ := h
    have nd := sc__law_line.nd
    refine ⟨_, (pss_one (ps_ret (pe_joinK (K := K) pe_str (pe_lc (own := [("_law_turn", 3)]) rfl nd (pi_range1 (by rfl) T.range (pa_cons (pe_callP G_law_bit hr (by rfl) (pa_cons (pv 0) (pa_cons (pe_op op_add (pv 2) pe_int) pa_nil))) pa_nil)) (blkOk_by (N := N__law_line) (sc := defScope s__law_line) (by decide +kernel)) (fun _ _ _ _ _ => (pg_name (i := 3) nd rfl (.inl rfl) (hf := .inr rfl))) (fun _ _ _ _ _ => pts_nil) (fun _ _ _ _ _ => (pe_callP G_law_pick hr (by rfl) (pa_cons (pv 0) (pa_cons (pv 1) pa_nil)))))))), ?_⟩
    have hl1 := L.l1
    have hl3 := L.l3
    have main : Gets [c] (tLc (iRng1 (tCons (tCall sp_bit [] E0 (tCons (tVar 0) (tCons (tOp (rI0 fun i j => .int (i + j)) (tVar 2) (tC (.int 1))) tNil))) tNil)) (gName 3) tYes (tCall (sp_pick K) [] E0 (tCons (tVar 0) (tCons (tVar 1) tNil))) [3]) (start N__law_line [.ref c, .str (tx l), .int (n : Int)]) H
        (fun v H' => ∃ es : List Nat, es.length ≤ n ∧ Over l es ∧ Dp K H' v (.list (es.map fun e => PyData.str (tx [e])))) := by
      refine gets_lcRng (PR := fun r => r < n + 1) (GetsA.imp (gA_cons (gets_bit (K := K) (n := n + 1) (gv_var rfl) (Gets.is (gd_add (gd_vi (n := (n : Int)) rfl) gd_i) rfl) (by omega) (by omega)) (fun _ _ _ _ _ h => h) gA_nil) fun vs H1 _ _ h => ?_) fun r H1 hr s1 w1 => ?_
      · obtain ⟨_, _, rfl, ⟨r, rfl, hr⟩, rfl⟩ := h
        exact ⟨r, rfl, hr⟩
      · refine Gets.imp (lc_gen1 (K := K) (n := r) (E := fun i => .int (i : Int)) (src_range1 (n := r) (ga_cons (K := K) gd_i ga_nil) (by omega)) (by omega) (fun i ds => ∃ es : List Nat, es.length = i ∧ Over l es ∧ ds = es.map fun e => PyData.str (tx [e])) ⟨[], rfl, Over.nil, rfl⟩ (fun _ => rfl) fun i x H2 acc hi s2 w2 hx hI => ?_) fun v H2 _ _ h => ?_
        · obtain ⟨es, h1, h2, rfl⟩ := hI
          intro H3 s3 w3 Q q
          refine q true H3 (Sm.refl _ _) w3 ?_
          dsimp only
          rw [if_pos rfl]
          refine Gets.imp (gets_pickT (K := K) (l := l) (gv_var rfl) (gd_vs rfl) hl1 (by omega)) fun v H4 _ _ h => ?_
          obtain ⟨e, he, rfl⟩ := h
          refine ⟨.str (tx [e]), ⟨rfl, es ++ [e], by simp [h1], fun z hz => ?_, by simp⟩, .str _⟩
          rcases List.mem_append.mp hz with h | h
          · exact h2 z h
          · simp at h; subst h; exact he
        · obtain ⟨d, ⟨ds, rfl, es, h1, h2, rfl⟩, hd⟩ := h
          exact ⟨es, by omega, h2, hd⟩
    refine r_retC (P := fun v _ => ∃ z, v = .str (tx z) ∧ Over l z ∧ z.length ≤ n) (fun H1 s1 w1 Q k => ⟨⟨_, rfl⟩, main H1 s1 w1 _ fun v H2 s2 w2 p => ?_⟩) hc fun v H1 s hc' p => ?_
    · obtain ⟨es, h1, h2, hd⟩ := p
      obtain ⟨a, xs, rfl, g1, g2⟩ := dp_lst hd
      rw [dps_tx1 g2] at g1
      refine ⟨"", a, (es.map fun e => [e]).map tx, rfl, rfl, .inl g1, ?_, ?_⟩
      · rw [sum_one]
        show es.length + _ * 0 ≤ _
        omega
      · rw [join_tx]
        exact k _ H2 s2 w2 ⟨es, rfl, h2, h1⟩
    · obtain ⟨z, rfl, h1, h2⟩ := p
      exact q z H1 h1 h2 s hc'
abbrev N__law_some_of : List Str := ["_law_cup_here", "_law_many", "_law_at"]
theorem sc__law_some_of : FnScope N__law_some_of ["_law_cup_here", "_law_many"] (defScope s__law_some_of) := ⟨rfl, rfl, rfl, by decide +kernel, rfl, by decide +kernel, by decide +kernel⟩
def sp_some_of (K : PySem.W.Frag) : Sp := fun vs H Q _ => ∃ (c : Addr) (n : Nat), vs = [.ref c, .int (n : Int)] ∧ IsCup H c ∧ n ≤ 1000 ∧ ∀ (es : List Nat) v H', es.Pairwise (· < ·) → (∀ x ∈ es, x < n) → Dp K H' v (rowD es) → Sm [c] H H' → IsCup H' c → Q v H'
theorem gt_bit0 {σ : L2.St} {H : Hp} {ta tb : TE} {c : Addr} {n : Nat} (ha : Gv [c] ta σ H (.ref c)) (hb : Gd K [c] tb σ H (.int (n : Int))) (h1 : 1 ≤ n) (h2 : n ≤ 100000) : GetsTP [c] (tTest (tOp rEq (tCall sp_bit [] E0 (tCons ta (tCons tb tNil))) (tC (.int 0)))) σ H (fun _ _ => True) := fun H1 s1 w1 Q k =>
  gets_bit (K := K) ha hb h1 h2 H1 s1 w1 _ fun v H2 s2 w2 ⟨r, e, _⟩ => by
    subst e
    exact ⟨rfl, _, rfl, k _ H2 s2 w2 trivial⟩
theorem ok_some_of (F : Fun K "_law_some_of" "_law_some_of" s__law_some_of f fd) (T : Txt K mg C) (G_law_bit : Ok1 P w K mg base "_law_bit" ["_law_cup_here", "_law_much"] 1 sp_bit) : FnOk P w K mg base CX0 2 f fd ["_law_cup_here", "_law_many"] (sp_some_of K) := by
  refine F.ok sc__law_some_of (fun vs H Q E h => ?_) (fun cdv A outer s H vs Q E hr h => ?_)
  · obtain ⟨c, n, rfl, _⟩ := h
    rfl
  · obtain ⟨c, n, rfl, hc, hn, q⟩ := h
    have nd := sc__law_some_of.nd
    refine ⟨_, (pss_one (ps_ret (pe_callTy (tupOf_ K) (by rfl) T.tuple (by decide +kernel) (pa_cons (pe_lc (own := [("_law_at", 2)]) rfl nd (pi_range1 (by rfl) T.range (pa_cons (pv 1) pa_nil)) (blkOk_by (N := N__law_some_of) (sc := defScope s__law_some_of) (by decide +kernel)) (fun _ _ _ _ _ => (pg_name (i := 2) nd rfl (.inl rfl) (hf := .inr rfl))) (fun _ _ _ _ _ => (pts_one (pt_cmpR op_eq (pe_callP G_law_bit hr (by rfl) (pa_cons (pv 0) (pa_cons pe_int pa_nil))) pe_int (nomark _)))) (fun _ _ _ _ _ => (pv 2))) pa_nil)))), ?_⟩
    refine r_retC (P := fun v H' => ∃ es : List Nat, (es.Pairwise (· < ·) ∧ ∀ x ∈ es, x < n) ∧ Dp K H' v (rowD es)) (gets_tupR (K := K) (PD := fun es : List Nat => es.Pairwise (· < ·) ∧ ∀ x ∈ es, x < n) (Gets.imp (lc_gen1 (K := K) (m := [c]) (n := n) (E := fun i => .int (i : Int)) (src_range1 (m := [c]) (n := n) (ga_cons (K := K) (m := [c]) (gd_vi rfl) ga_nil) (by omega)) (by omega) (fun i ds => ∃ es : List Nat, es.Pairwise (· < ·) ∧ (∀ x ∈ es, x < i) ∧ ds = es.map fun q : Nat => PyData.int (q : Int)) ⟨[], .nil, by simp, rfl⟩ (fun _ => rfl) fun i x H2 acc hi s2 w2 hx hI => ?_) fun v H2 _ _ h => ?_)) hc fun v H1 s hc' p => ?_
    · obtain ⟨es, h1, h2, rfl⟩ := hI
      cases dp_int hx
      intro H3 s3 w3 Q k
      refine gt_bit0 (K := K) (n := 2) (gv_var rfl) gd_i (by omega) (by omega) H3 s3 w3 Q fun b H4 s4 w4 _ => k b H4 s4 w4 ?_
      dsimp only
      cases b with
      | true =>
        rw [if_pos rfl]
        refine Gets.imp (gv_var rfl) fun v H5 _ _ e => ?_
        subst e
        refine ⟨.int (i : Int), ⟨rfl, es ++ [i], ?_, fun z hz => ?_, by simp⟩, .int _⟩
        · rw [List.pairwise_append]
          exact ⟨h1, by simp, fun a ha b hb => by simp at hb; subst hb; exact h2 a ha⟩
        · rcases List.mem_append.mp hz with h | h
          · have := h2 z h; omega
          · simp at h; omega
      | false =>
        rw [if_neg (by simp)]
        exact ⟨es, h1, fun z hz => by have := h2 z hz; omega, rfl⟩
    · obtain ⟨d, ⟨ds, rfl, es, h1, h2, rfl⟩, hd⟩ := h
      exact ⟨es, ⟨h1, h2⟩, hd⟩
    · obtain ⟨es, ⟨h1, h2⟩, hd⟩ := p
      exact q es v H1 h1 h2 hd s hc'
end
end K29
namespace K29
open PySem PySem.Spec PyProof.Rows L2

/-! rows by letters -/
structure RowsOk (l : List Nat) (n : Nat) (rows : List (List Nat)) : Prop where
  len : rows.length = l.length
  row : ∀ r ∈ rows, r.length = n ∧ ∀ x ∈ r, x < n
def waysD (l : List Nat) (rows : List (List Nat)) : List (Key × PyData) := (l.zip rows).map fun p => (ck p.1, rowD p.2)
def mkAut (l : List Nat) (rows : List (List Nat)) (yes : List Nat) : Aut := ⟨l, rows, yes⟩
theorem mkAut_n {l rows yes n} (L : Lts l) (R : RowsOk l n rows) : (mkAut l rows yes).n = n := by
  have h1 := L.l1
  have h2 := R.len
  unfold Aut.n mkAut
  cases rows with
  | nil => simp at h2; omega
  | cons r rs => exact (R.row r List.mem_cons_self).1
theorem mkAut_ok {l rows yes n} (L : Lts l) (R : RowsOk l n rows) (h1 : 1 ≤ n) (h9 : n ≤ 60) (ya : yes.Pairwise (· < ·)) (yb : ∀ y ∈ yes, y < n) : (mkAut l rows yes).Ok := by
  have e := mkAut_n (yes := yes) L R
  exact ⟨L.l1, L.l3, L.asc, L.cod, R.len, fun r hr => by rw [e]; exact (R.row r hr).1, fun r hr x hx => by rw [e]; exact (R.row r hr).2 x hx, by rw [e]; exact h1, by rw [e]; exact h9, ya, fun y hy => by rw [e]; exact yb y hy⟩
theorem zip_row : ∀ {l : List Nat} {rows : List (List Nat)}, l.Nodup → rows.length = l.length → (l.zip rows).map (fun p => (ck p.1, rowD p.2)) = l.map fun c => (ck c, rowD (((l.zip rows).lookup c).getD []))
  | [], _, _, _ => by simp
  | _ :: _, [], _, h => by simp at h
  | a :: l, r :: rows, hn, h => by
    rw [List.nodup_cons] at hn
    have ih := zip_row (l := l) (rows := rows) hn.2 (by simpa using h)
    rw [List.zip_cons_cons, List.map_cons, List.map_cons, ih, List.lookup_cons_self]
    congr 1
    refine List.map_congr_left fun c hc => ?_
    rw [List.lookup_cons, show (c == a) = false from beq_eq_false_iff_ne.mpr (fun e => hn.1 (e ▸ hc))]
theorem mkAut_moves {l rows yes} (L : Lts l) (h : rows.length = l.length) : movesD (mkAut l rows yes) = waysD l rows := (zip_row (L.asc.imp fun {a b} h => Nat.ne_of_lt h) h).symm
theorem noLs_ways (l : List Nat) (rows : List (List Nat)) : noLs ((waysD l rows).map (·.2)) = true := by
  unfold waysD
  rw [List.map_map]
  exact noLs_map fun _ _ => noL_row _
theorem ways_keys {l : List Nat} {rows : List (List Nat)} (h : rows.length = l.length) : (waysD l rows).map (·.1) = l.map ck := by
  unfold waysD
  rw [List.map_map]
  have : (l.zip rows).map (fun p => p.1) = l := by rw [List.map_fst_zip (by omega)]
  calc _ = ((l.zip rows).map fun p => p.1).map ck := by rw [List.map_map]; rfl
    _ = _ := by rw [this]
theorem ways_nd {l : List Nat} {rows : List (List Nat)} (L : Lts l) (h : rows.length = l.length) : ((waysD l rows).map (·.1)).Nodup := by
  rw [ways_keys h]
  exact nd_map_on (L.asc.imp fun {a b} h => Nat.ne_of_lt h) fun a _ b _ e => ck_inj e
theorem zip_snoc {l : List Nat} {rows : List (List Nat)} {r : List Nat} {i : Nat} (hi : i < l.length) (h : rows.length = i) : (l.take (i + 1)).zip (rows ++ [r]) = (l.take i).zip rows ++ [(l.getD i 0, r)] := by
  rw [List.take_add_one, List.getElem?_eq_getElem hi, getD_of hi]
  show (l.take i ++ [l[i]]).zip (rows ++ [r]) = _
  rw [List.zip_append (by rw [List.length_take]; omega)]
  rfl
theorem map_erase29 {α β : Type} (f : α → β) : ∀ (l : List α) (j : Nat), (l.eraseIdx j).map f = (l.map f).eraseIdx j
  | [], _ => by simp
  | _ :: _, 0 => rfl
  | x :: l, j + 1 => by
    show f x :: (l.eraseIdx j).map f = f x :: (l.map f).eraseIdx j
    rw [map_erase29 f l j]
def pairD (p : Nat × List Nat) : PyData := .tuple [.str (tx [p.1]), rowD p.2]
section
variable {K : PySem.W.Frag} {m : List Addr} {σ : L2.St} {H H' : Hp} {ta tb te : TE} {t : TA} {c : Addr}
theorem gA_one {P : V → Hp → Prop} (h : Gets m ta σ H P) : GetsA m (tCons ta tNil) σ H (fun us H' => ∃ v, us = [v] ∧ P v H') := fun H1 s1 w1 Q k =>
  h H1 s1 w1 _ fun v H2 s2 w2 p => k _ H2 s2 w2 ⟨v, rfl, p⟩
theorem gets_dictR {PP : List (Key × PyData) → Prop} (h : GetsA m t σ H (fun us H' => ∃ kds : List (Key × PyData), PP kds ∧ DpAll K H' us [.list (kds.map fun p => .tuple [kD p.1, p.2])])) (hn : ∀ kds, PP kds → (kds.map (·.1)).Nodup) : Gets m (tCB (fun xs H Q => ∃ (a : Addr) (ps : List Addr) (kvs : List (Key × V)), xs = [.ref a] ∧ SqL K H a (ps.map V.ref) ∧ Paired (fun p kv => SqT K H p [kV kv.1, kv.2]) ps kvs ∧
    ∀ p, H p = none → Q (.ref p) (upd H p (.dK (mergeK [] kvs)))) t) σ H (fun v H' => ∃ kds, PP kds ∧ NewDict K kds v H') := fun H1 s1 w1 Q k =>
  h H1 s1 w1 _ fun us H2 s2 w2 ⟨kds, hpp, p⟩ => by
    have g := gets_dictP (K := K) (t := fun _ H Q => Q us H) (σ := σ) (H := H2) (kds := kds) (fun H3 s3 _ Q q => q us H3 (Sm.refl _ _) Wm.nil (by
      cases p with
      | cons p1 p2 => cases p2; exact .cons (dp_sm0 s3 p1) .nil)) (hn kds hpp)
    exact g.go (Q := Q) fun v H3 s3 e => k v H3 (s2.trans s3.weak) (w2.same s3.same) ⟨kds, hpp, e⟩
theorem gets_pairR {PR : List Nat → Prop} {z : Nat} (ha : Gv m ta σ H (.str (tx [z]))) (hb : Gets m tb σ H (fun v H' => ∃ es : List Nat, PR es ∧ Dp K H' v (rowD es))) : Gets m (tTup (tCons ta (tCons tb tNil))) σ H (fun v H' => ∃ es : List Nat, PR es ∧ Dp K H' v (pairD (z, es))) := fun H1 s1 w1 Q k =>
  ha H1 s1 w1 _ fun v H2 s2 w2 e => hb H2 (s1.trans s2) w2 _ fun v2 H3 s3 w3 ⟨es, hp, hd⟩ => by
    subst e
    exact ⟨show 2 ≤ sizeLine by decide, fun a haa => k _ _ ((s2.trans s3).trans (Sm.new haa)) (w3.new haa) ⟨es, hp, .tup (SqT.of upd_same) (.cons (.str _) (.cons (dp_sm (Sm.new (m := []) haa) Wm.nil (.inl rfl) hd) .nil))⟩⟩
/-- {sign: row ..} by dict([..]) -/
theorem gets_ways {l : List Nat} {n j : Nat} {vs : List Nat} (L : Lts l) (hs : Gd K m ta σ H (.str (tx l))) (hw : ∀ x, wipe ((wipe σ vs).set j (some x)) vs = wipe σ vs)
    (hr : ∀ i H', i < l.length → Sm m H H' → Wm m H' → Gets m tb ((wipe σ vs).set j (some (.str (tx [l.getD i 0])))) H' (fun v H2 => ∃ es : List Nat, (es.length = n ∧ ∀ x ∈ es, x < n) ∧ Dp K H2 v (rowD es))) (hj : j < σ.length) :
    Gets m (tCB (fun xs H Q => ∃ (a : Addr) (ps : List Addr) (kvs : List (Key × V)), xs = [.ref a] ∧ SqL K H a (ps.map V.ref) ∧ Paired (fun p kv => SqT K H p [kV kv.1, kv.2]) ps kvs ∧
      ∀ p, H p = none → Q (.ref p) (upd H p (.dK (mergeK [] kvs)))) (tCons (tLc (iStr ta) (gName j) tYes (tTup (tCons (tVar j) (tCons tb tNil))) vs) tNil)) σ H (fun v H' => ∃ rows, RowsOk l n rows ∧ NewDict K (waysD l rows) v H') := by
  refine Gets.imp (gets_dictR (K := K) (PP := fun kds => ∃ rows, RowsOk l n rows ∧ kds = waysD l rows) (GetsA.imp (gA_one (P := fun v H' => ∃ rows, RowsOk l n rows ∧ Dp K H' v (.list ((l.zip rows).map pairD))) (Gets.imp (lc_gen1 (K := K) (m := m) (n := l.length) (E := fun i => .str (tx [l.getD i 0])) (src_str hs) (by have := L.l3; omega)
    (fun i ds => ∃ rows : List (List Nat), rows.length = i ∧ (∀ r ∈ rows, r.length = n ∧ ∀ x ∈ r, x < n) ∧ ds = ((l.take i).zip rows).map pairD) ⟨[], rfl, by simp, by simp⟩ hw fun i x H2 acc hi s2 w2 hx hI => ?_) fun v H2 _ _ h => ?_)) fun us H2 _ _ h => ?_) fun kds h => ?_) fun v H2 _ _ h => ?_
  · obtain ⟨rows, h1, h2, rfl⟩ := hI
    cases dp_str hx
    intro H3 s3 w3 Q k
    refine k true H3 (Sm.refl _ _) w3 ?_
    dsimp only
    rw [if_pos rfl]
    refine Gets.imp (gets_pairR (K := K) (z := l.getD i 0) (gv_var (by rw [List.getElem?_set_self (by rw [wipe_length]; exact hj)])) (hr i H3 hi (s2.trans s3) w3)) fun v H4 _ _ h => ?_
    obtain ⟨es, h3, h4⟩ := h
    refine ⟨pairD (l.getD i 0, es), ⟨by show noL (.tuple [_, _]) = true; simp [noL, noLs, noL_row], rows ++ [es], by simp [h1], fun r hr => ?_, ?_⟩, h4⟩
    · rcases List.mem_append.mp hr with h | h
      · exact h2 r h
      · simp at h; subst h; exact h3
    · rw [zip_snoc hi h1, List.map_append]; rfl
  · obtain ⟨d, ⟨ds, rfl, rows, h1, h2, rfl⟩, hd⟩ := h
    rw [List.take_length] at hd
    exact ⟨rows, ⟨h1, h2⟩, hd⟩
  · obtain ⟨v1, rfl, rows, h1, h2⟩ := h
    refine ⟨_, ⟨rows, h1, rfl⟩, .cons ?_ .nil⟩
    have e : (waysD l rows).map (fun p => PyData.tuple [kD p.1, p.2]) = (l.zip rows).map pairD := by
      unfold waysD
      rw [List.map_map]; rfl
    rw [e]
    exact h2
  · obtain ⟨rows, h1, rfl⟩ := h
    exact ways_nd L h1.len
  · obtain ⟨kds, ⟨rows, h1, rfl⟩, h2⟩ := h
    exact ⟨rows, h1, h2⟩
end
section
variable {P : Program} {w : World} {K : PySem.W.Frag} {mg : Str → Option Value} {base : Heap} {f C : Addr} {fd : FuncData}
def sp_ways (K : PySem.W.Frag) : Sp := fun vs H Q _ => ∃ (c : Addr) (l : List Nat) (n : Nat), vs = [.ref c, .str (tx l), .int (n : Int)] ∧ IsCup H c ∧ Lts l ∧ 1 ≤ n ∧ n ≤ 9 ∧ ∀ rows dw H', RowsOk l n rows → DictAt K H' dw (waysD l rows) → Sm [c] H H' → IsCup H' c → Q (.ref dw) H'
abbrev N__law_any_ways : List Str := ["_law_cup_here", "_law_signs_here", "_law_many", "_law_at", "_law_sign"]
theorem sc__law_any_ways : FnScope N__law_any_ways ["_law_cup_here", "_law_signs_here", "_law_many"] (defScope s__law_any_ways) := ⟨rfl, rfl, rfl, by decide +kernel, rfl, by decide +kernel, by decide +kernel⟩
theorem ok_any_ways (F : Fun K "_law_any_ways" "_law_any_ways" s__law_any_ways f fd) (T : Txt K mg C) (G_law_bit : Ok1 P w K mg base "_law_bit" ["_law_cup_here", "_law_much"] 1 sp_bit) : FnOk P w K mg base CX0 2 f fd ["_law_cup_here", "_law_signs_here", "_law_many"] (sp_ways K) := by
  refine F.ok sc__law_any_ways (fun vs H Q E h => ?_) (fun cdv A outer s H vs Q E hr h => ?_)
  · obtain ⟨c, l, n, rfl, _⟩ := h
    rfl
  · obtain ⟨c, l, n, rfl, hc, L, h1, h9, q⟩ := h
    have nd := sc__law_any_ways.nd
    refine ⟨_, (pss_one  (ps_ret (pe_callTy (call_dictP rfl) (by rfl) T.dict (by decide +kernel) (pa_cons (pe_lc (own := [("_law_sign", 4)]) rfl nd (pi_str (pv 1)) (blkOk_by (N := N__law_any_ways) (sc := defScope s__law_any_ways) (by decide +kernel)) (fun _ _ _ _ _ => (pg_name (i := 4) nd rfl (.inl rfl) (hf := .inr rfl))) (fun _ _ _ _ _ => pts_nil) (fun _ _ _ _ _ => (pe_tup (pa_cons (pv 4) (pa_cons (pe_callTy (tupOf_ K) (by rfl) T.tuple (by decide +kernel) (pa_cons (pe_lc (own := [("_law_at", 3)]) rfl nd (pi_range1 (by rfl) T.range (pa_cons (pv 2) pa_nil)) (blkOk_by (N := N__law_any_ways) (sc := relS _ (defScope s__law_any_ways)) (by decide +kernel)) (fun _ _ _ _ _ => (pg_name (i := 3) nd rfl (.inl rfl) (hf := .inr rfl))) (fun _ _ _ _ _ => pts_nil) (fun _ _ _ _ _ => (pe_callP G_law_bit hr (by rfl) (pa_cons (pv 0) (pa_cons (pv 2) pa_nil))))) pa_nil)) pa_nil))))) pa_nil)))), ?_⟩
    refine r_retC (gets_ways (K := K) (m := [c]) (n := n) L (gd_vs rfl) (fun _ => rfl) (fun i H' hi s1 w1 => ?_) (show 4 < 5 by decide)) hc fun v H1 s hc' p => ?_
    · refine gets_tupR (K := K) (PD := fun es : List Nat => es.length = n ∧ ∀ x ∈ es, x < n) (Gets.imp (lc_gen1 (K := K) (m := [c]) (n := n) (E := fun i => .int (i : Int)) (src_range1 (m := [c]) (n := n) (ga_cons (K := K) (m := [c]) (gd_vi rfl) ga_nil) (by omega)) (by omega) (fun i ds => ∃ es : List Nat, es.length = i ∧ (∀ x ∈ es, x < n) ∧ ds = es.map fun q : Nat => PyData.int (q : Int)) ⟨[], rfl, by simp, rfl⟩ (fun _ => rfl) fun i x H2 acc hi s2 w2 hx hI => ?_) fun v H2 _ _ h => ?_)
      · obtain ⟨es, g1, g2, rfl⟩ := hI
        intro H3 s3 w3 Q k
        refine k true H3 (Sm.refl _ _) w3 ?_
        dsimp only
        rw [if_pos rfl]
        refine Gets.imp (gets_bit (K := K) (n := n) (gv_var rfl) (gd_vi rfl) h1 (by omega)) fun v H4 _ _ h => ?_
        obtain ⟨r, rfl, hr⟩ := h
        refine ⟨.int (r : Int), ⟨rfl, es ++ [r], by simp [g1], fun z hz => ?_, by simp⟩, .int _⟩
        rcases List.mem_append.mp hz with h | h
        · exact g2 z h
        · simp at h; subst h; exact hr
      · obtain ⟨d, ⟨ds, rfl, es, g1, g2, rfl⟩, hd⟩ := h
        exact ⟨es, ⟨g1, g2⟩, hd⟩
    · obtain ⟨rows, h2, dw, rfl, h3⟩ := p
      exact q rows dw H1 h2 h3 s hc'
abbrev N__law_dealt : List Str := ["_law_cup_here", "_law_items", "_law_waits", "_law_turn"]
theorem sc__law_dealt : FnScope N__law_dealt ["_law_cup_here", "_law_items"] (defScope s__law_dealt) := ⟨rfl, rfl, rfl, by decide +kernel, rfl, by decide +kernel, by decide +kernel⟩
def sp_dealt (K : PySem.W.Frag) : Sp := fun vs H Q _ => ∃ (c a : Addr) (l : List Nat) (n : Nat), vs = [.ref c, .ref a] ∧ IsCup H c ∧ a ≠ c ∧ SqL K H a (nats l) ∧ l.length = n ∧ n ≤ 100 ∧ (∀ x ∈ l, x < n) ∧
  ∀ (es : List Nat) v H', es.length = n → (∀ x ∈ es, x < n) → Dp K H' v (rowL es) → Sm [c] H H' → IsCup H' c → Q v H'
theorem ok_dealt (F : Fun K "_law_dealt" "_law_dealt" s__law_dealt f fd) (T : Txt K mg C) (G_law_bit : Ok1 P w K mg base "_law_bit" ["_law_cup_here", "_law_much"] 1 sp_bit) : FnOk P w K mg base CX0 2 f fd ["_law_cup_here", "_law_items"] (sp_dealt K) := by
  refine F.ok sc__law_dealt (fun vs H Q E h => ?_) (fun cdv A outer s H vs Q E hr h => ?_)
  · obtain ⟨c, a, l, n, rfl, _⟩ := h
    rfl
  · obtain ⟨c, a, l, n, rfl, hc, hac, hl, hln, hn, hlt, q⟩ := h
    have nd := sc__law_dealt.nd
    refine ⟨_, (pss_cons  (ps_set (i := 2) nd rfl (.inr rfl) (pe_callTy (lstOf_ K) (by rfl) T.list (by decide +kernel) (pa_cons (pv 1) pa_nil)))
  (pss_one  (ps_ret (pe_lc (own := [("_law_turn", 3)]) rfl nd (pi_range1 (by rfl) T.range (pa_cons (pe_callB (lenSeq_ K) (by rfl) T.len PySem.boot_len (pa_cons (pv 1) pa_nil)) pa_nil)) (blkOk_by (N := N__law_dealt) (sc := defScope s__law_dealt) (by decide +kernel)) (fun _ _ _ _ _ => (pg_name (i := 3) nd rfl (.inl rfl) (hf := .inr rfl))) (fun _ _ _ _ _ => pts_nil) (fun _ _ _ _ _ => (pe_lmK (K := K) PySem.F.slot_list_pop PySem.F.type_list_pop mt_popAt (pv 2) (pa_cons (pe_callP G_law_bit hr (by rfl) (pa_cons (pv 0) (pa_cons (pe_callB (lenSeq_ K) (by rfl) T.len PySem.boot_len (pa_cons (pv 2) pa_nil)) pa_nil))) pa_nil))))))), ?_⟩
    have hnl : (nats l).length = n := by unfold nats; rw [List.length_map]; exact hln
    refine ⟨.ref a, rfl, a, nats l, rfl, .inl hl, fun pw hpw => ?_⟩
    have hpc : pw ≠ c := fun e => by
      subst e
      obtain ⟨i, j, k, e⟩ := hc
      rw [e] at hpw; cases hpw
    have s1 : Sm [c] H (upd H pw (.lst (nats l))) := Sm.new hpw
    have hc1 : IsCup (upd H pw (.lst (nats l))) c := (wm1 hc).new hpw |>.c1
    have hp1 : (upd H pw (.lst (nats l))) pw = some (.lst (nats l)) := upd_same
    have ha1 : SqL K (upd H pw (.lst (nats l))) a (nats l) := s1.lst (by simpa using hac) hl
    refine ⟨.ref a, rfl, a, nats l, rfl, .inl ha1, ?_⟩
    refine ⟨((nats l).length : Int), rfl, by omega, by omega, fun D hD => ?_⟩
    rw [hnl, Int.toNat_natCast]
    have hDp : D ≠ pw := fun e => by subst e; rw [hp1] at hD; cases hD
    have hDc : D ≠ c := fun e => by
      subst e
      obtain ⟨i, j, k, e⟩ := hc1
      rw [e] at hD; cases hD
    have hD0 : H D = none := by rw [upd_ne hDp] at hD; exact hD
    refine lc_it walk_range (fun i H' => i ≤ n ∧ ∃ ws acc : List Nat, H' pw = some (.lst (nats ws)) ∧ ws.length = n - i ∧ (∀ x ∈ ws, x < n) ∧ H' D = some (.lst (nats acc)) ∧ acc.length = i ∧ (∀ x ∈ acc, x < n) ∧ Sm [c] H H' ∧ IsCup H' c)
      ⟨Nat.zero_le _, l, [], by rw [upd_ne hDp.symm]; exact hp1, by omega, hlt, upd_same, rfl, by simp, s1.trans (Sm.new hD), (wm1 hc1).new hD |>.c1⟩ (fun _ _ _ _ => trivial) (fun i x H1 H2 hi hI hy => ?_) fun H1 hI => ?_
    · obtain ⟨_, ws, acc, g1, g2, g3, g4, g5, g6, g7, g8⟩ := hI
      obtain ⟨rfl, rfl⟩ := hy
      refine ⟨rfl, yes_intro (iteT ?_)⟩
      have hwl : (nats ws).length = ws.length := by unfold nats; rw [List.length_map]
      refine ⟨.ref pw, rfl, .inl ⟨rfl, _, SqL.of g1⟩, .ref c, rfl, .ref pw, rfl, pw, nats ws, rfl, .inl (SqL.of g1), c, ws.length, by rw [hwl]; rfl, g8, by omega, by omega, fun r H3 hr s3 hc3 => ?_⟩
      have p3 := s3 pw _ (by simpa using hpc) g1
      have d3 := s3 D _ (by simpa using hDc) g4
      refine ⟨pw, nats ws, (r : Int), r, .int (ws[r] : Int), rfl, rfl, p3, by omega, by omega, by rw [PySem.seqIndex_of (by omega) (by omega)]; rfl, by unfold nats; rw [List.getElem?_map, List.getElem?_eq_getElem hr]; rfl, ?_⟩
      refine ⟨nats acc, by rw [upd_ne hDp]; exact d3, Nat.lt_of_le_of_lt (m := 100) (by unfold nats; rw [List.length_map]; omega) (by decide), by omega, ws.eraseIdx r, acc ++ [ws[r]], ?_, ?_, ?_, ?_, ?_, ?_, ?_, ?_⟩
      · rw [upd_ne hDp.symm, upd_same]
        unfold nats
        rw [map_erase29]
      · rw [List.length_eraseIdx_of_lt hr]; omega
      · exact fun x hx => g3 x (List.mem_of_mem_eraseIdx hx)
      · rw [upd_same]; unfold nats; simp
      · simp [g5]
      · intro x hx
        rcases List.mem_append.mp hx with h | h
        · exact g6 x h
        · simp at h; subst h; exact g3 _ (List.getElem_mem hr)
      · exact ((g7.trans s3).mut hpw).mut hD0
      · obtain ⟨i, j, k, e⟩ := hc3
        exact ⟨i, j, k, by rw [upd_ne hDc.symm, upd_ne hpc.symm]; exact e⟩
    · obtain ⟨_, ws, acc, g1, g2, g3, g4, g5, g6, g7, g8⟩ := hI
      exact q acc (.ref D) H1 g5 g6 (rowL_of g4) g7 g8
end
end K29
namespace K29
open PySem PySem.Spec PyProof.Rows L2
section
variable {K : PySem.W.Frag} {m : List Addr} {σ : L2.St} {H H' : Hp} {ta tb te : TE} {t : TA} {c : Addr}
/-- a row of numbers below N -/
theorem gets_rowZ {n N j : Nat} {vs : List Nat} (hn : Ga K m t σ H [.int (n : Int)]) (hs : n ≤ 1000) (he : ∀ (i : Nat) H', i < n → Sm m H H' → Wm m H' → GdZ m te ((wipe σ vs).set j (some (.int (i : Int)))) H' (fun x => 0 ≤ x ∧ x < (N : Int))) (hw : ∀ x, wipe ((wipe σ vs).set j (some x)) vs = wipe σ vs) :
    Gets m (tLc (iRng1 t) (gName j) tYes te vs) σ H (fun v H' => ∃ es : List Nat, (es.length = n ∧ ∀ x ∈ es, x < N) ∧ Dp K H' v (rowL es)) := by
  refine Gets.imp (lc_gen1 (K := K) (m := m) (n := n) (E := fun i => .int (i : Int)) (src_range1 (n := n) hn (by omega)) (by omega) (fun i ds => ∃ es : List Nat, es.length = i ∧ (∀ x ∈ es, x < N) ∧ ds = es.map fun q : Nat => PyData.int (q : Int)) ⟨[], rfl, by simp, rfl⟩ hw fun i x H2 acc hi s2 w2 hx hI => ?_) fun v H2 _ _ h => ?_
  · obtain ⟨es, g1, g2, rfl⟩ := hI
    cases dp_int hx
    intro H3 s3 w3 Q k
    refine k true H3 (Sm.refl _ _) w3 ?_
    dsimp only
    rw [if_pos rfl]
    refine Gets.imp (he i H3 hi (s2.trans s3) w3) fun v H4 _ _ h => ?_
    obtain ⟨z, rfl, h1, h2⟩ := h
    have e : z = ((z.toNat : Nat) : Int) := by omega
    refine ⟨.int z, ⟨rfl, es ++ [z.toNat], by simp [g1], fun y hy => ?_, by rw [List.map_append]; simp; omega⟩, .int _⟩
    rcases List.mem_append.mp hy with h | h
    · exact g2 y h
    · simp at h; subst h; omega
  · obtain ⟨d, ⟨ds, rfl, es, g1, g2, rfl⟩, hd⟩ := h
    exact ⟨es, ⟨g1, g2⟩, hd⟩
theorem gets_dealt {n : Nat} (ha : Gv [c] ta σ H (.ref c)) (hb : Gd K [c] tb σ H (.int (n : Int))) (hn : n ≤ 100) : Gets [c] (tCall (sp_dealt K) [] E0 (tCons ta (tCons (tLstRg (tRg1 tb)) tNil))) σ H (fun v H' => ∃ es : List Nat, (es.length = n ∧ ∀ x ∈ es, x < n) ∧ Dp K H' v (rowL es)) := fun H1 s1 w1 Q k =>
  ha H1 s1 w1 _ fun v H2 s2 w2 e => hb H2 (s1.trans s2) w2 _ fun v2 H3 s3 w3 p => by
    subst e
    cases dp_int p
    refine ⟨(n : Int), rfl, RgOk.of_le (by omega) (by omega) (by omega) (by omega), fun a haa => ?_⟩
    have e : rgV 0 (n : Int) = nats (List.range n) := by
      unfold rgV nats
      rw [show ((n : Int) - 0).toNat = n by omega]
      exact List.map_congr_left fun i _ => by rw [Int.zero_add]
    have hne : a ≠ c := fun e => by
      subst e
      obtain ⟨i, j, k, e⟩ := w3.c1
      rw [e] at haa; cases haa
    have s4 : Sm [c] H3 (upd H3 a (.lst (rgV 0 (n : Int)))) := Sm.new haa
    exact ⟨c, a, List.range n, n, rfl, (w3.new haa).c1, hne, by rw [← e]; exact SqL.of upd_same, List.length_range, hn, fun x hx => List.mem_range.mp hx, fun es v H5 h1 h2 hd s5 w5 => k v H5 (((s2.trans s3).trans s4).trans s5) (wm1 w5) ⟨es, ⟨h1, h2⟩, hd⟩⟩
theorem gd_z {i : Int} (h : GdZ m te σ H (fun x => x = i)) : Gd K m te σ H (.int i) := h.imp fun v H1 _ _ ⟨z, e, e'⟩ => by subst e; subst e'; exact .int _
/-- for i in range(n), whatever the turns change -/
theorem r_forRng {D : Ends} {tbody : TS} {j n : Nat} (h : Ga K [] t σ H [.int (n : Int)]) (hn : n ≤ 1000) (Pv : Nat → L2.St → Hp → Prop) (h0 : ∀ H1, Sm [] H H1 → Pv 0 σ H1)
    (hs : ∀ i σ' H' (N : L2.St → Hp → Prop), i < n → Pv i σ' H' → (∀ σ2 H2, Pv (i + 1) σ2 H2 → N σ2 H2) → tbody { D with nx := N, ct := N, bk := D.nx } (σ'.set j (some (.int (i : Int)))) H')
    (hd : ∀ σ' H', Pv n σ' H' → D.nx σ' H') : tFor (iRng1 t) (gName j) tbody D σ H :=
  h H (Sm.refl _ _) Wm.nil _ fun vs H2 s2 _ p => by
    cases p with
    | cons p1 p2 =>
      cases p2; cases p1
      refine ⟨(n : Int), rfl, by omega, by omega, ?_⟩
      rw [Int.toNat_natCast]
      refine for_it walk_range Pv (h0 H2 s2) (fun _ _ _ _ _ => trivial) (fun i x σ' H' H'' hi p y => ?_) hd
      obtain ⟨rfl, rfl⟩ := y
      show gName j (V.int (0 + (i : Int))) σ' H'' _
      rw [show (0 : Int) + (i : Int) = (i : Int) from Int.zero_add _]
      exact hs i σ' H'' _ hi p fun _ _ h => h
theorem rq_forRng {D : Ends} {tbody u : TS} {j n : Nat} (h : Ga K [] t σ H [.int (n : Int)]) (hn : n ≤ 1000) (Pv : Nat → L2.St → Hp → Prop) (h0 : ∀ H1, Sm [] H H1 → Pv 0 σ H1)
    (hs : ∀ i σ' H' (N : L2.St → Hp → Prop), i < n → Pv i σ' H' → (∀ σ2 H2, Pv (i + 1) σ2 H2 → N σ2 H2) → tbody { D with nx := N, ct := N, bk := u D } (σ'.set j (some (.int (i : Int)))) H')
    (hd : ∀ σ' H', Pv n σ' H' → u D σ' H') : tSeq (tFor (iRng1 t) (gName j) tbody) u D σ H := r_forRng (D := { D with nx := u D }) h hn Pv h0 hs hd
theorem fmod_b {a : Int} {n : Nat} (h : 1 ≤ n) : 0 ≤ a.fmod (n : Int) ∧ a.fmod (n : Int) < (n : Int) := ⟨Int.fmod_nonneg_of_pos a (by omega), Int.fmod_lt_of_pos a (by omega)⟩
/-- the dict of ways while it grows -/
def WaysAt (K : PySem.W.Frag) (H : Hp) (d : Addr) (l : List Nat) (n i : Nat) : Prop := ∃ (es : List (Key × V)) (rows : List (List Nat)), H d = some (.dK es) ∧ rows.length = i ∧ (∀ r ∈ rows, r.length = n ∧ ∀ x ∈ r, x < n) ∧ es.map (·.1) = (waysD (l.take i) rows).map (·.1) ∧ DpAll K H (es.map (·.2)) ((waysD (l.take i) rows).map (·.2))
theorem WaysAt.put {d : Addr} {l : List Nat} {n i : Nat} {vr : V} {es' : List Nat} (h : WaysAt K H d l n i) (L : Lts l) (hi : i < l.length) (hv : Dp K H vr (rowD es')) (h1 : es'.length = n) (h2 : ∀ x ∈ es', x < n) : ∃ H', DPut H d (.str (tx [l.getD i 0])) vr H' ∧ WaysAt K H' d l n (i + 1) ∧ ∃ o, H' = upd H d o := by
  obtain ⟨es, rows, g1, g2, g3, g4, g5⟩ := h
  have hl3 := L.l3
  have hlt : (l.take i).length = i := by rw [List.length_take]; omega
  have hes : es.length = i := by
    have := congrArg List.length g4
    rw [ways_keys (by omega)] at this
    rw [List.length_map, List.length_map, hlt] at this
    exact this
  have hnk : ck (l.getD i 0) ∉ (waysD (l.take i) rows).map (·.1) := fun hm => by
    rw [ways_keys (by omega)] at hm
    obtain ⟨c, hc, e⟩ := List.mem_map.mp hm
    have e' : c = l.getD i 0 := ck_inj e
    rw [getD_of hi] at e'
    obtain ⟨k, hk1, hk2⟩ := List.getElem_of_mem hc
    rw [List.getElem_take] at hk2
    have hnd : l.Nodup := L.asc.imp fun {a b} h => Nat.ne_of_lt h
    have := (List.getElem_inj hnd).mp (hk2.trans e')
    omega
  obtain ⟨q1, q2⟩ := dict_grow g4 g5 hnk hv
  have ew : waysD (l.take (i + 1)) (rows ++ [es']) = waysD (l.take i) rows ++ [(ck (l.getD i 0), rowD es')] := by
    unfold waysD
    rw [zip_snoc hi g2, List.map_append]; rfl
  refine ⟨_, DPut.k (k := ck (l.getD i 0)) g1 (Nat.lt_of_le_of_lt (m := 3) (by omega) (by decide)), ⟨_, rows ++ [es'], upd_same, by simp [g2], fun r hr => ?_, ?_, ?_⟩, _, rfl⟩
  · rcases List.mem_append.mp hr with h | h
    · exact g3 r h
    · simp at h; subst h; exact ⟨h1, h2⟩
  · rw [ew]; exact q1
  · rw [ew]
    refine dps_updK ?_ g1 q2
    rw [← ew]
    exact noLs_ways _ _
theorem WaysAt.sm {d : Addr} {l : List Nat} {n i : Nat} (h : WaysAt K H d l n i) (s : Sm m H H') (w : Wm m H) : WaysAt K H' d l n i := by
  obtain ⟨es, rows, g1, g2, g3, g4, g5⟩ := h
  exact ⟨es, rows, s.at w g1 (fun _ e => by cases e), g2, g3, g4, dps_sm s w (.inr (noLs_ways _ _)) g5⟩
theorem WaysAt.done {d : Addr} {l : List Nat} {n : Nat} (h : WaysAt K H d l n l.length) : ∃ rows, RowsOk l n rows ∧ DictAt K H d (waysD l rows) := by
  obtain ⟨es, rows, g1, g2, g3, g4, g5⟩ := h
  rw [List.take_length] at g4 g5
  exact ⟨rows, ⟨g2, g3⟩, es, g1, g4, g5⟩
end
section
variable {P : Program} {w : World} {K : PySem.W.Frag} {mg : Str → Option Value} {base : Heap} {f C : Addr} {fd : FuncData}
abbrev N__law_turning_ways : List Str := ["_law_cup_here", "_law_signs_here", "_law_many", "_law_sign"]
theorem sc__law_turning_ways : FnScope N__law_turning_ways ["_law_cup_here", "_law_signs_here", "_law_many"] (defScope s__law_turning_ways) := ⟨rfl, rfl, rfl, by decide +kernel, rfl, by decide +kernel, by decide +kernel⟩
theorem ok_turning_ways (F : Fun K "_law_turning_ways" "_law_turning_ways" s__law_turning_ways f fd) (T : Txt K mg C) (G_law_dealt : Ok1 P w K mg base "_law_dealt" ["_law_cup_here", "_law_items"] 2 (sp_dealt K)) : FnOk P w K mg base CX0 3 f fd ["_law_cup_here", "_law_signs_here", "_law_many"] (sp_ways K) := by
  refine F.ok sc__law_turning_ways (fun vs H Q E h => ?_) (fun cdv A outer s H vs Q E hr h => ?_)
  · obtain ⟨c, l, n, rfl, _⟩ := h
    rfl
  · obtain ⟨c, l, n, rfl, hc, L, h1, h9, q⟩ := h
    have nd := sc__law_turning_ways.nd
    refine ⟨_, (pss_one  (ps_ret (pe_callTy (call_dictP rfl) (by rfl) T.dict (by decide +kernel) (pa_cons (pe_lc (own := [("_law_sign", 3)]) rfl nd (pi_str (pv 1)) (blkOk_by (N := N__law_turning_ways) (sc := defScope s__law_turning_ways) (by decide +kernel)) (fun _ _ _ _ _ => (pg_name (i := 3) nd rfl (.inl rfl) (hf := .inr rfl))) (fun _ _ _ _ _ => pts_nil) (fun _ _ _ _ _ => (pe_tup (pa_cons (pv 3) (pa_cons (pe_callTy (tupOf_ K) (by rfl) T.tuple (by decide +kernel) (pa_cons (pe_callP G_law_dealt hr (by rfl) (pa_cons (pv 0) (pa_cons (pe_listRg rfl (by rfl) T.list (prg_1 (by rfl) T.range (pv 2))) pa_nil))) pa_nil)) pa_nil))))) pa_nil)))), ?_⟩
    refine r_retC (gets_ways (K := K) (m := [c]) (n := n) L (gd_vs rfl) (fun _ => rfl) (fun i H' hi s1 w1 => gets_tupR (K := K) (PD := fun es : List Nat => es.length = n ∧ ∀ x ∈ es, x < n) (gets_dealt (K := K) (gv_var rfl) (gd_vi rfl) (by omega))) (show 3 < 4 by decide)) hc fun v H1 s hc' p => ?_
    obtain ⟨rows, h2, dw, rfl, h3⟩ := p
    exact q rows dw H1 h2 h3 s hc'
abbrev N__law_ring_ways : List Str := ["_law_cup_here", "_law_signs_here", "_law_many", "_law_found", "_law_sign", "_law_step", "_law_at"]
theorem sc__law_ring_ways : FnScope N__law_ring_ways ["_law_cup_here", "_law_signs_here", "_law_many"] (defScope s__law_ring_ways) := ⟨rfl, rfl, rfl, by decide +kernel, rfl, by decide +kernel, by decide +kernel⟩
theorem ok_ring_ways (F : Fun K "_law_ring_ways" "_law_ring_ways" s__law_ring_ways f fd) (T : Txt K mg C) (G_law_bit : Ok1 P w K mg base "_law_bit" ["_law_cup_here", "_law_much"] 1 sp_bit) : FnOk P w K mg base CX0 2 f fd ["_law_cup_here", "_law_signs_here", "_law_many"] (sp_ways K) := by
  refine F.ok sc__law_ring_ways (fun vs H Q E h => ?_) (fun cdv A outer s H vs Q E hr h => ?_)
  · obtain ⟨c, l, n, rfl, _⟩ := h
    rfl
  · obtain ⟨c, l, n, rfl, hc, L, h1, h9, q⟩ := h
    have nd := sc__law_ring_ways.nd
    have hu := hu_of hr
    refine ⟨_, (pss_cons  (ps_set (i := 3) nd rfl (.inl rfl) pe_dnewK)
  (pss_cons  (ps_for PassesOwn.never rfl (pi_str (pv 1)) (pg_name (i := 4) nd rfl (.inl rfl)) 
    (pss_cons  (ps_set (i := 5) nd rfl (.inr rfl) (pe_callP G_law_bit hr (by rfl) (pa_cons (pv 0) (pa_cons (pv 2) pa_nil))))
    (pss_one  (ps_dput hu (pv 3) (pv 4) (pe_callTy (tupOf_ K) (by rfl) T.tuple (by decide +kernel) (pa_cons (pe_lc (own := [("_law_at", 6)]) rfl nd (pi_range1 (by rfl) T.range (pa_cons (pv 2) pa_nil)) (blkOk_by (N := N__law_ring_ways) (sc := defScope s__law_ring_ways) (by decide +kernel)) (fun _ _ _ _ _ => (pg_name (i := 6) nd rfl (.inl rfl) (hf := .inr rfl))) (fun _ _ _ _ _ => pts_nil) (fun _ _ _ _ _ => (pe_op op_modN (pe_callTy call_int1 (by rfl) T.int (by decide +kernel) (pa_cons (pe_op op_add (pv 6) (pv 5)) pa_nil)) (pv 2)))) pa_nil)) rfl))))
  (pss_one  (ps_ret (pv 3))))), ?_⟩
    refine fun d hd => ?_
    have hdc : d ≠ c := fun e => by
      subst e
      obtain ⟨i, j, k, e⟩ := hc
      rw [e] at hd; cases hd
    have s1 : Sm [c] H (upd H d (.dK [])) := Sm.new hd
    have hc1 : IsCup (upd H d (.dK [])) c := (wm1 hc).new hd |>.c1
    have hw1 : WaysAt K (upd H d (.dK [])) d l n 0 := ⟨[], [], upd_same, rfl, by simp, rfl, .nil⟩
    refine rq_forStr (K := K) (l := l) (gd_vs rfl) (fun i σ' H' => ∃ w4 w5 : Option V, σ' = [some (.ref c), some (.str (tx l)), some (.int (n : Int)), some (.ref d), w4, w5, none] ∧ WaysAt K H' d l n i ∧ Sm [c] H H' ∧ IsCup H' c)
      (fun H1 s2 => ⟨none, none, rfl, hw1.sm s2 Wm.nil, s1.trans s2.weak, (wm1 hc1).same s2.same |>.c1⟩) (fun i σ' H' N hi hP kk => ?_) fun σ' H' hP => ?_
    · obtain ⟨w4, w5, rfl, hW, s3, hc3⟩ := hP
      refine rq_asgC (gets_bit (K := K) (n := n) (gv_var rfl) (gd_vi rfl) h1 (by omega)) hc3 fun v H4 s4 hc4 p4 => ?_
      obtain ⟨r, rfl, hr4⟩ := p4
      have hW4 := hW.sm s4 (wm1 hc3)
      refine (gets_tupR (K := K) (m := []) (PD := fun es : List Nat => es.length = n ∧ ∀ x ∈ es, x < n) (gets_rowZ (K := K) (m := []) (n := n) (N := n) (ga_cons (K := K) (gd_vi rfl) ga_nil) (by omega) (fun i H' hi s w => gz_op (p := fun _ => True) (q := fun b => b = (n : Int)) (gz_int (gz_op0 (r := fun _ => True) (gz_v rfl) (gz_v rfl) fun _ _ _ _ => trivial)) (gz_v rfl) (fun a b _ h => by omega) fun a b _ h => by rw [h]; exact fmod_b h1) (fun _ => rfl))).go fun vr H5 s5 p5 => ?_
      obtain ⟨es, ⟨e1, e2⟩, p5⟩ := p5
      obtain ⟨H6, g1, g2, o, rfl⟩ := (hW4.sm s5 Wm.nil).put L hi p5 e1 e2
      refine ⟨.ref d, rfl, .str (tx [l.getD i 0]), rfl, d, _, rfl, g1, kk _ _ ⟨_, _, rfl, g2, ((s3.trans s4).trans s5.weak).mut hd, ?_⟩⟩
      obtain ⟨i, j, k, e⟩ := (wm1 hc4).same s5.same |>.c1
      exact ⟨i, j, k, by rw [upd_ne hdc.symm]; exact e⟩
    · obtain ⟨w4, w5, rfl, hW, s3, hc3⟩ := hP
      obtain ⟨rows, g1, g2⟩ := hW.done
      exact ⟨.ref d, rfl, q rows d H' g1 g2 s3 hc3⟩
end
end K29
namespace K29
open PySem PySem.Spec PyProof.Rows L2
theorem fdiv_b {i n : Nat} (h1 : 1 ≤ n) (h : i < n * n) : 0 ≤ (i : Int).fdiv (n : Int) ∧ (i : Int).fdiv (n : Int) < (n : Int) := by
  have e : (i : Int).fdiv (n : Int) = ((i / n : Nat) : Int) := by
    rw [Int.fdiv_eq_ediv_of_nonneg _ (by omega)]; rfl
  have := Nat.div_lt_of_lt_mul h
  rw [e]
  exact ⟨Int.natCast_nonneg _, Int.ofNat_lt.mpr this⟩
theorem rq_parG {m : List Addr} {σ : L2.St} {H : Hp} {t : TA} {u : TS} {D : Ends} {i j : Nat} {PP : V → V → Hp → Prop} (h : GetsA m t σ H (fun vs H' => ∃ v1 v2, vs = [v1, v2] ∧ PP v1 v2 H')) (w : Wm m H) (k : ∀ v1 v2 H1, Sm m H H1 → Wm m H1 → PP v1 v2 H1 → u D ((σ.set i (some v1)).set j (some v2)) H1) : tSeq (tPar i j t) u D σ H :=
  h H (Sm.refl _ _) w _ fun vs H1 s w1 ⟨v1, v2, e, p⟩ => ⟨v1, v2, e, k v1 v2 H1 s w1 p⟩
theorem cell_b {n x y : Int} (h1 : 1 ≤ n) (h3 : n ≤ 3) (hx : 0 ≤ x ∧ x < n) (hy : 0 ≤ y ∧ y < n) : 0 ≤ n * x + y ∧ n * x + y < n * n := by
  have h : n = 1 ∨ n = 2 ∨ n = 3 := by omega
  rcases h with rfl | rfl | rfl <;> omega
section
variable {P : Program} {w : World} {K : PySem.W.Frag} {mg : Str → Option Value} {base : Heap} {f C : Addr} {fd : FuncData}
abbrev N__law_pair_ways : List Str := ["_law_cup_here", "_law_signs_here", "_law_many", "_law_found", "_law_sign", "_law_step", "_law_times", "_law_row", "_law_at", "_law_later"]
theorem sc__law_pair_ways : FnScope N__law_pair_ways ["_law_cup_here", "_law_signs_here", "_law_many"] (defScope s__law_pair_ways) := ⟨rfl, rfl, rfl, by decide +kernel, rfl, by decide +kernel, by decide +kernel⟩
def sp_pair_ways (K : PySem.W.Frag) : Sp := fun vs H Q _ => ∃ (c : Addr) (l : List Nat) (n : Nat), vs = [.ref c, .str (tx l), .int (n : Int)] ∧ IsCup H c ∧ Lts l ∧ 1 ≤ n ∧ n ≤ 3 ∧ ∀ rows dw H', RowsOk l (n * n) rows → DictAt K H' dw (waysD l rows) → Sm [c] H H' → IsCup H' c → Q (.ref dw) H'
theorem ok_pair_ways (F : Fun K "_law_pair_ways" "_law_pair_ways" s__law_pair_ways f fd) (T : Txt K mg C) (G_law_bit : Ok1 P w K mg base "_law_bit" ["_law_cup_here", "_law_much"] 1 sp_bit) : FnOk P w K mg base CX0 2 f fd ["_law_cup_here", "_law_signs_here", "_law_many"] (sp_pair_ways K) := by
  refine F.ok sc__law_pair_ways (fun vs H Q E h => ?_) (fun cdv A outer s H vs Q E hr h => ?_)
  · obtain ⟨c, l, n, rfl, _⟩ := h
    rfl
  · obtain ⟨c, l, n, rfl, hc, L, h1, h3, q⟩ := h
    have nd := sc__law_pair_ways.nd
    have hu := hu_of hr
    refine ⟨_, (pss_cons  (ps_set (i := 3) nd rfl (.inl rfl) (pe_disp (pps_cons (pe_ix ix_str (pv 1) pe_int (fun _ _ => rfl)) (pe_callTy (tupOf_ K) (by rfl) T.tuple (by decide +kernel) (pa_cons (pe_lc (own := [("_law_at", 8)]) rfl nd (pi_range1 (by rfl) T.range (pa_cons (pe_op op_mul (pv 2) (pv 2)) pa_nil)) (blkOk_by (N := N__law_pair_ways) (sc := defScope s__law_pair_ways) (by decide +kernel)) (fun _ _ _ _ _ => (pg_name (i := 8) nd rfl (.inl rfl) (hf := .inr rfl))) (fun _ _ _ _ _ => pts_nil) (fun _ _ _ _ _ => (pe_op op_add (pe_op op_mul (pv 2) (pe_callTy call_int1 (by rfl) T.int (by decide +kernel) (pa_cons (pe_op op_fdivN (pv 8) (pv 2)) pa_nil))) (pe_op op_modN (pe_callTy call_int1 (by rfl) T.int (by decide +kernel) (pa_cons (pe_op op_add (pv 8) pe_int) pa_nil)) (pv 2))))) pa_nil)) pps_nil) (by rfl) (by rfl) (fun z => by cases z) (by decide)))
  (pss_cons  (ps_for PassesOwn.never rfl (pi_str (pe_slice sl_str (pv 1) (po_some pe_int) po_none)) (pg_name (i := 4) nd rfl (.inl rfl)) 
    (pss_cons  (ps_par (i := 5) (j := 6) rfl nd rfl rfl (by decide) rfl rfl (pa_cons (pe_callP G_law_bit hr (by rfl) (pa_cons (pv 0) (pa_cons (pv 2) pa_nil))) (pa_cons (pe_callP G_law_bit hr (by rfl) (pa_cons (pv 0) (pa_cons (pv 2) pa_nil))) pa_nil)) (by rfl))
    (pss_cons  (ps_set (i := 7) nd rfl (.inl rfl) (pe_lst pa_nil))
    (pss_cons  (ps_for PassesOwn.never rfl (pi_range1 (by rfl) T.range (pa_cons (pe_op op_mul (pv 2) (pv 2)) pa_nil)) (pg_name (i := 8) nd rfl (.inl rfl)) 
      (pss_cons  (ps_set (i := 9) nd rfl (.inl rfl) (pe_op op_modN (pe_callTy call_int1 (by rfl) T.int (by decide +kernel) (pa_cons (pe_op op_add (pe_op op_add (pe_op op_fdivN (pv 8) (pv 2)) (pv 5)) (pe_op op_mul (pv 6) (pe_op op_modN (pe_callTy call_int1 (by rfl) T.int (by decide +kernel) (pa_cons (pv 8) pa_nil)) (pv 2)))) pa_nil)) (pv 2)))
      (pss_one  (ps_expr (pe_lmK (K := K) PySem.F.slot_list_append PySem.F.type_list_append mt_append (pv 7) (pa_cons (pe_op op_add (pe_op op_mul (pv 2) (pv 9)) (pe_op op_modN (pe_callTy call_int1 (by rfl) T.int (by decide +kernel) (pa_cons (pv 8) pa_nil)) (pv 2))) pa_nil))))))
    (pss_one  (ps_dput hu (pv 3) (pv 4) (pe_callTy (tupOf_ K) (by rfl) T.tuple (by decide +kernel) (pa_cons (pv 7) pa_nil)) rfl))))))
  (pss_one  (ps_ret (pv 3))))), ?_⟩
    have hl1 := L.l1
    have hl3 := L.l3
    have hnn : n * n ≤ 9 := by
      have : n = 1 ∨ n = 2 ∨ n = 3 := by omega
      rcases this with rfl | rfl | rfl <;> decide
    have emul : ∀ {m : List Addr} {σ : L2.St} {H : Hp}, σ[2]? = some (some (.int (n : Int))) → Ga K m (tCons (tOp (rI CMul fun i j => .int (i * j)) (tVar 2) (tVar 2)) tNil) σ H [.int ((n * n : Nat) : Int)] := fun hσ =>
      ga_cons (K := K) (gd_z (gz_op (gz_v hσ) (gz_v hσ) (fun a b h1 h2 => .inl ⟨by omega, by omega⟩) fun a b h1 h2 => by rw [h1, h2]; exact (Int.natCast_mul n n).symm)) ga_nil (Or.inr rfl)
    refine fun d hd => ?_
    have hdc : d ≠ c := fun e => by
      subst e
      obtain ⟨i, j, k, e⟩ := hc
      rw [e] at hd; cases hd
    have s1 : Sm [c] H (upd H d (.dK [])) := Sm.new hd
    have s10 : Sm [] H (upd H d (.dK [])) := Sm.new hd
    have hd1 : (upd H d (.dK [])) d = some (.dK []) := upd_same
    show tOp rIxS (tVar 1) (tC (.int 0)) _ _ _
    refine (gd_ixS (K := K) (m := []) (l := l) (i := 0) (gd_vs rfl) gd_i (by omega) (by omega)).go fun vk H2 s2 pk => ?_
    cases dp_str pk
    refine (gets_tupR (K := K) (m := []) (PD := fun es : List Nat => es.length = n * n ∧ ∀ x ∈ es, x < n * n) (gets_rowZ (K := K) (m := []) (n := n * n) (N := n * n) (emul rfl) (by omega) (fun i H' hi s w => gz_op0 (p := fun a => ∃ x : Int, a = n * x ∧ 0 ≤ x ∧ x < n) (q := fun y => 0 ≤ y ∧ y < n)
      (gz_op (p := fun a => a = (n : Int)) (q := fun x => 0 ≤ x ∧ x < n) (gz_v rfl) (gz_int (gz_op (p := fun a => a = (i : Int)) (q := fun b => b = (n : Int)) (gz_v rfl) (gz_v rfl) (fun a b _ h => ⟨by omega, by omega⟩) fun a b h1' h2 => by rw [h1', h2]; exact fdiv_b h1 hi)) (fun a b h _ => .inl ⟨by omega, by omega⟩) fun a b h1 h2 => ⟨b, by rw [h1], h2⟩)
      (gz_op (p := fun _ => True) (q := fun b => b = (n : Int)) (gz_int (gz_op0 (r := fun _ => True) (gz_v rfl) gz_c fun _ _ _ _ => trivial)) (gz_v rfl) (fun a b _ h => by omega) fun a b _ h => by rw [h]; exact fmod_b h1)
      fun a b ⟨x, h2, h3'⟩ h4 => by
        rw [h2, Int.natCast_mul]
        exact cell_b (by omega) (by omega) h3' h4) (fun _ => rfl))).go fun vr H3 s3 pr => ?_
    obtain ⟨es, ⟨e1, e2⟩, pr⟩ := pr
    have hd3 := (s2.trans s3) _ _ (by simp) hd1
    refine ⟨hd3, [(ck (l.getD 0 0), vr)], rfl, (show 1 ≤ 15 by decide), ?_⟩
    have s13 : Sm [c] H (upd H3 d (.dK (mergeK [] [(ck (l.getD 0 0), vr)]))) := ((s10.trans (s2.trans s3)).weak).mut hd
    have hc13 : IsCup (upd H3 d (.dK (mergeK [] [(ck (l.getD 0 0), vr)]))) c := by
      obtain ⟨i, j, k, e⟩ := hc
      exact ⟨i, j, k, by rw [upd_ne hdc.symm]; exact (s10.trans (s2.trans s3)) _ _ (by simp) e⟩
    have hw13 : WaysAt K (upd H3 d (.dK (mergeK [] [(ck (l.getD 0 0), vr)]))) d l (n * n) 1 := by
      have et : l.take 1 = [l.getD 0 0] := by
        rw [show (1 : Nat) = 0 + 1 from rfl, List.take_add_one, List.getElem?_eq_getElem (by omega), getD_of (by omega)]; rfl
      refine ⟨[(ck (l.getD 0 0), vr)], [es], upd_same, rfl, fun r hr => by simp at hr; subst hr; exact ⟨e1, e2⟩, by rw [et]; rfl, ?_⟩
      rw [et]
      exact .cons (dp_updK (noL_row _) hd3 pr) .nil
    generalize (upd H3 d (.dK (mergeK [] [(ck (l.getD 0 0), vr)]))) = H4 at *
    dsimp only
    refine rq_forStr (K := K) (l := l.drop 1) (gd_slS (gd_vs rfl) (by omega)) (fun i σ' H' => ∃ w4 w5 w6 w7 w8 w9 : Option V, σ' = [some (.ref c), some (.str (tx l)), some (.int (n : Int)), some (.ref d), w4, w5, w6, w7, w8, w9] ∧ WaysAt K H' d l (n * n) (i + 1) ∧ Sm [c] H H' ∧ IsCup H' c)
      (fun H5 s5 => ⟨none, none, none, none, none, none, rfl, hw13.sm s5 Wm.nil, s13.trans s5.weak, (wm1 hc13).same s5.same |>.c1⟩) (fun i σ' H' N hi hP kk => ?_) fun σ' H' hP => ?_
    · obtain ⟨w4, w5, w6, w7, w8, w9, rfl, hW, s5, hc5⟩ := hP
      rw [List.length_drop] at hi
      have edr : (l.drop 1).getD i 0 = l.getD (i + 1) 0 := by
        rw [List.getD_eq_getElem?_getD, List.getElem?_drop, List.getD_eq_getElem?_getD, Nat.add_comm]
      rw [edr]
      -- step, times
      refine rq_parG (m := [c]) (PP := fun v1 v2 _ => ∃ r5 r6 : Nat, v1 = .int (r5 : Int) ∧ v2 = .int (r6 : Int) ∧ r6 < n) (GetsA.imp (gA_cons (gets_bit (K := K) (n := n) (gv_var rfl) (gd_vi rfl) h1 (by omega)) (fun _ _ _ _ _ h => h) (gA_one (gets_bit (K := K) (n := n) (gv_var rfl) (gd_vi rfl) h1 (by omega)))) fun vs H6 _ _ h6 => ?_) (wm1 hc5) fun v5 v6 H6 s6 w6' h6 => ?_
      · obtain ⟨_, _, rfl, ⟨r5, rfl, hr5⟩, _, rfl, r6, rfl, hr6⟩ := h6
        exact ⟨_, _, rfl, r5, r6, rfl, rfl, hr6⟩
      obtain ⟨r5, r6, rfl, rfl, hr6⟩ := h6
      have hW6 := hW.sm s6 (wm1 hc5)
      have hc6 := w6'.c1
      -- row = []
      refine ⟨show 0 ≤ sizeLine by decide, fun pr hpr => ?_⟩
      have hprc : pr ≠ c := fun e => by
        subst e
        obtain ⟨i, j, k, e⟩ := hc6
        rw [e] at hpr; cases hpr
      have s7 : Sm [] H6 (upd H6 pr (.lst [])) := Sm.new hpr
      have hW7 := hW6.sm s7 Wm.nil
      have s57 : Sm [c] H (upd H6 pr (.lst [])) := (s5.trans s6).trans s7.weak
      have hpr0 : H pr = none := (s5.trans s6).free (wm1 hc) (wm1 hc6) hpr
      have hprd : pr ≠ d := fun e => by
        subst e
        obtain ⟨es, _, g, _⟩ := hW6
        rw [g] at hpr; cases hpr
      refine rq_forRng (K := K) (n := n * n) (emul rfl) (by omega) (fun j σ' H' => ∃ w8 w9 : Option V, σ' = [some (.ref c), some (.str (tx l)), some (.int (n : Int)), some (.ref d), some (.str (tx [l.getD (i + 1) 0])), some (.int (r5 : Int)), some (.int (r6 : Int)), some (.ref pr), w8, w9] ∧ WaysAt K H' d l (n * n) (i + 1) ∧ Sm [c] H H' ∧ IsCup H' c ∧ ∃ rs : List Nat, H' pr = some (.lst (nats rs)) ∧ rs.length = j ∧ ∀ x ∈ rs, x < n * n)
        (fun H8 s8 => ⟨w8, w9, rfl, hW7.sm s8 Wm.nil, s57.trans s8.weak, (wm1 hc6).new hpr |>.same s8.same |>.c1, [], s8 _ _ (by simp) upd_same, rfl, by simp⟩) (fun j σ' H8 N2 hj hP kk2 => ?_) fun σ' H8 hP => ?_
      · obtain ⟨w8, w9, rfl, hW8, s8, hc8, rs, g1, g2, g3⟩ := hP
        refine rq_asg (P := fun v _ => ∃ z : Int, v = .int z ∧ 0 ≤ z ∧ z < n) (gz_op (p := fun _ => True) (q := fun b => b = (n : Int)) (gz_int (gz_op0 (p := fun _ => True) (q := fun _ => True) (gz_op0 (p := fun _ => True) (q := fun _ => True) (gz_op (p := fun _ => True) (q := fun b => b = (n : Int)) (gz_t (gz_v rfl)) (gz_v rfl) (fun a b _ h => ⟨by omega, by omega⟩) fun _ _ _ _ => trivial) (gz_t (gz_v rfl)) fun _ _ _ _ => trivial) (gz_op (q := fun _ => True) (r := fun _ => True) (gz_v rfl) (gz_op (p := fun _ => True) (q := fun b => b = (n : Int)) (gz_int (gz_t (gz_v rfl))) (gz_v rfl) (fun a b _ h => by omega) fun _ _ _ _ => trivial) (fun a b h _ => .inl ⟨by omega, by omega⟩) fun _ _ _ _ => trivial) fun _ _ _ _ => trivial)) (gz_v rfl) (fun a b _ h => by omega) fun a b _ h => by rw [h]; exact fmod_b h1) fun v9 H9 s9 p9 => ?_
        obtain ⟨z, rfl, hz⟩ := p9
        have g19 := s9 _ _ (by simp) g1
        refine r_app (K := K) (P := fun v _ => ∃ x : Int, v = .int x ∧ 0 ≤ x ∧ x < ((n * n : Nat) : Int)) rfl g19 (by unfold nats; rw [List.length_map]; omega) (gz_op0 (p := fun a => a = n * z) (q := fun y => 0 ≤ y ∧ y < n) (gz_op (p := fun a => a = (n : Int)) (q := fun b => b = z) (gz_v rfl) (gz_v rfl) (fun a b h _ => .inl ⟨by omega, by omega⟩) fun a b h1 h2 => by rw [h1, h2]) (gz_op (p := fun _ => True) (q := fun b => b = (n : Int)) (gz_int (gz_t (gz_v rfl))) (gz_v rfl) (fun a b _ h => by omega) fun a b _ h => by rw [h]; exact fmod_b h1) fun a b h2 h4 => by
          rw [h2, Int.natCast_mul]
          exact cell_b (by omega) (by omega) hz h4) fun v10 H10 s10' p10 => ?_
        obtain ⟨x, rfl, hx1, hx2⟩ := p10
        have ex : x = ((x.toNat : Nat) : Int) := by omega
        have g110 := s10' _ _ (by simp) g19
        have s910 := s9.trans s10'
        obtain ⟨es, rows, k1, k2, k3, k4, k5⟩ := hW8.sm s910 Wm.nil
        refine kk2 _ _ ⟨_, _, rfl, ⟨es, rows, by rw [upd_ne hprd.symm]; exact k1, k2, k3, k4, dps_upd (noLs_ways _ _) g110 k5⟩, (s8.trans s910.weak).mut hpr0, ?_, rs ++ [x.toNat], ?_, by simp [g2], fun y hy => ?_⟩
        · obtain ⟨i, j, k, e⟩ := (wm1 hc8).same s910.same |>.c1
          exact ⟨i, j, k, by rw [upd_ne hprc.symm]; exact e⟩
        · have en : nats (rs ++ [x.toNat]) = nats rs ++ [.int x] := by
            unfold nats
            rw [List.map_append]
            show _ ++ [V.int ((x.toNat : Nat) : Int)] = _
            rw [← ex]
          rw [upd_same, en]
        · rcases List.mem_append.mp hy with h | h
          · exact g3 y h
          · simp at h; subst h; omega
      · obtain ⟨w8, w9, rfl, hW8, s8, hc8, rs, g1, g2, g3⟩ := hP
        refine (gets_tupR (K := K) (m := []) (PD := fun es : List Nat => es = rs) ((gv_var rfl).imp fun v H9 s9 _ e => ?_)).go fun vr H9 s9 p9 => ?_
        · subst e
          exact ⟨rs, rfl, rowL_of (s9 _ _ (by simp) g1)⟩
        · obtain ⟨_, rfl, p9⟩ := p9
          obtain ⟨H10, k1, k2, o, rfl⟩ := (hW8.sm s9 Wm.nil).put L (show i + 1 < l.length by omega) p9 g2 g3
          refine ⟨.ref d, rfl, .str (tx [l.getD (i + 1) 0]), rfl, d, _, rfl, k1, kk _ _ ⟨_, _, _, _, _, _, rfl, k2, (s8.trans s9.weak).mut hd, ?_⟩⟩
          obtain ⟨i, j, k, e⟩ := (wm1 hc8).same s9.same |>.c1
          exact ⟨i, j, k, by rw [upd_ne hdc.symm]; exact e⟩
    · obtain ⟨w4, w5, w6, w7, w8, w9, rfl, hW, s5, hc5⟩ := hP
      rw [List.length_drop, show l.length - 1 + 1 = l.length by omega] at hW
      obtain ⟨rows, g1, g2⟩ := hW.done
      exact ⟨.ref d, rfl, q rows d H' g1 g2 s5 hc5⟩
end
end K29
namespace K29
open PySem PySem.Spec PyProof.Rows L2
abbrev IsPl (K : PySem.W.Frag) (l : List Nat) : V → Hp → Prop := fun v H' => ∃ A p dw ty, v = .ref p ∧ Aut.Ok A ∧ A.n ≤ 9 ∧ A.ls = l ∧ PlAt K H' p A dw ty
theorem plF_merge {ls : List Nat} {dw ty : Addr} : mergeK [] (plF ls dw ty) = plF ls dw ty := mergeK_new _ [] (by
  show [kS "signs", kS "ways", kS "good"].Nodup
  decide +kernel)
section
variable {K : PySem.W.Frag} {σ : L2.St} {H H' : Hp} {ta tb te te1 te2 te3 : TE} {t : TA} {c : Addr} {l : List Nat} {N : Nat}
abbrev IsWays (K : PySem.W.Frag) (l : List Nat) (N : Nat) : V → Hp → Prop := fun v H' => ∃ rows dw, v = .ref dw ∧ RowsOk l N rows ∧ DictAt K H' dw (waysD l rows)
abbrev IsYes (K : PySem.W.Frag) (N : Nat) : V → Hp → Prop := fun v H' => ∃ es : List Nat, es.Pairwise (· < ·) ∧ (∀ x ∈ es, x < N) ∧ Dp K H' v (rowD es)
theorem gets_someof (ha : Gv [c] ta σ H (.ref c)) (hb : Gd K [c] tb σ H (.int (N : Int))) (hn : N ≤ 1000) : Gets [c] (tCall (sp_some_of K) [] E0 (tCons ta (tCons tb tNil))) σ H (IsYes K N) := fun H1 s1 w1 Q k =>
  ha H1 s1 w1 _ fun v H2 s2 w2 e => hb H2 (s1.trans s2) w2 _ fun v2 H3 s3 w3 p => by
    subst e
    cases dp_int p
    exact ⟨c, N, rfl, w3.c1, hn, fun es v H4 h1 h2 hd s4 w4 => k v H4 ((s2.trans s3).trans s4) (wm1 w4) ⟨es, h1, h2, hd⟩⟩
theorem gets_wcall {sp : Sp} {tc : TE} {N' : Nat} (hsp : ∀ (c : Addr) (H : Hp) (Q : VK) E, IsCup H c → (∀ rows dw H', RowsOk l N' rows → DictAt K H' dw (waysD l rows) → Sm [c] H H' → IsCup H' c → Q (.ref dw) H') → sp [.ref c, .str (tx l), .int (N : Int)] H Q E)
    (ha : Gv [c] ta σ H (.ref c)) (hb : Gd K [c] tb σ H (.str (tx l))) (hc : Gd K [c] tc σ H (.int (N : Int))) : Gets [c] (tCall sp [] E0 (tCons ta (tCons tb (tCons tc tNil)))) σ H (IsWays K l N') := fun H1 s1 w1 Q k =>
  ha H1 s1 w1 _ fun v H2 s2 w2 e => hb H2 (s1.trans s2) w2 _ fun v2 H3 s3 w3 p => hc H3 ((s1.trans s2).trans s3) w3 _ fun v3 H4 s4 w4 p3 => by
    subst e
    cases dp_str p
    cases dp_int p3
    exact hsp c H4 Q E0 w4.c1 fun rows dw H5 h1 h2 s5 w5 => k _ H5 (((s2.trans s3).trans s4).trans s5) (wm1 w5) ⟨rows, dw, rfl, h1, h2⟩
theorem gets_wcallR {sp : Sp} {tc : TE} {p : Int → Prop} (g : Nat → Nat) (hp : ∀ z, p z → 0 ≤ z) (hsp : ∀ N : Nat, p (N : Int) → ∀ (c : Addr) (H : Hp) (Q : VK) E, IsCup H c → (∀ rows dw H', RowsOk l (g N) rows → DictAt K H' dw (waysD l rows) → Sm [c] H H' → IsCup H' c → Q (.ref dw) H') → sp [.ref c, .str (tx l), .int (N : Int)] H Q E)
    (ha : Gv [c] ta σ H (.ref c)) (hb : Gd K [c] tb σ H (.str (tx l))) (hc : GdZ [c] tc σ H p) : Gets [c] (tCall sp [] E0 (tCons ta (tCons tb (tCons tc tNil)))) σ H (fun v H' => ∃ N : Nat, p (N : Int) ∧ IsWays K l (g N) v H') := fun H1 s1 w1 Q k =>
  ha H1 s1 w1 _ fun v H2 s2 w2 e => hb H2 (s1.trans s2) w2 _ fun v2 H3 s3 w3 p => hc H3 ((s1.trans s2).trans s3) w3 _ fun v3 H4 s4 w4 ⟨z, e3, hz⟩ => by
    subst e
    subst e3
    cases dp_str p
    have h0 := hp z hz
    have ez : z = ((z.toNat : Nat) : Int) := by omega
    rw [ez] at hz ⊢
    exact hsp z.toNat hz c H4 Q E0 w4.c1 fun rows dw H5 h1 h2 s5 w5 => k _ H5 (((s2.trans s3).trans s4).trans s5) (wm1 w5) ⟨z.toNat, hz, rows, dw, rfl, h1, h2⟩
theorem gz_bit {n : Nat} (ha : Gv [c] ta σ H (.ref c)) (hb : Gd K [c] tb σ H (.int (n : Int))) (h1 : 1 ≤ n) (h2 : n ≤ 100000) : GdZ [c] (tCall sp_bit [] E0 (tCons ta (tCons tb tNil))) σ H (fun x => 0 ≤ x ∧ x < (n : Int)) :=
  (gets_bit ha hb h1 h2).imp fun v H1 _ _ ⟨r, e, hr⟩ => ⟨(r : Int), e, by omega, by omega⟩
theorem gets_plain (L : Lts l) (h1 : 1 ≤ N) (h9 : N ≤ 9) (hs : Gd K [c] te1 σ H (.str (tx l))) (hw : Gets [c] te2 σ H (IsWays K l N)) (hy : Gets [c] te3 σ H (IsYes K N)) :
    Gets [c] (tDisp [(tC (.str "signs"), te1), (tC (.str "ways"), te2), (tC (.str "good"), te3)]) σ H (IsPl K l) := fun H1 s1 w1 Q k => by
  refine fun pd hpd => ?_
  have hpc : pd ≠ c := fun e => by
    subst e
    obtain ⟨i, j, k, e⟩ := w1.c1
    rw [e] at hpd; cases hpd
  have s2 : Sm [c] H1 (upd H1 pd (.dK [])) := Sm.new hpd
  have w2 := w1.new hpd (o := .dK [])
  have hd2 : (upd H1 pd (.dK [])) pd = some (.dK []) := upd_same
  show te1 _ _ _
  refine hs _ (s1.trans s2) w2 _ fun v3 H3 s3 w3 p3 => ?_
  cases dp_str p3
  show te2 _ _ _
  refine hw H3 ((s1.trans s2).trans s3) w3 _ fun v4 H4 s4 w4 p4 => ?_
  obtain ⟨rows, dw, rfl, g1, g2⟩ := p4
  show te3 _ _ _
  refine hy H4 (((s1.trans s2).trans s3).trans s4) w4 _ fun v5 H5 s5 w5 p5 => ?_
  obtain ⟨es, y1, y2, y3⟩ := p5
  obtain ⟨ty, tys, rfl, _, _⟩ := dp_tup y3
  have s25 := (s3.trans s4).trans s5
  refine ⟨s25 pd _ (by simpa using hpc) hd2, plF l dw ty, rfl, (show 3 ≤ 15 by decide), ?_⟩
  rw [plF_merge]
  have hd5 := s25 pd _ (by simpa using hpc) hd2
  have g25 := g2.sm s5 w4 (.inr (noLs_ways _ _))
  refine k _ _ ((s2.trans s25).mut hpd) (fun x hx => ?_) ⟨mkAut l rows es, pd, dw, ty, rfl, mkAut_ok L g1 h1 (by omega) y1 y2, by rw [mkAut_n L g1]; exact h9, rfl, upd_same, ?_, dp_updK (noL_row _) hd5 y3⟩
  · simp at hx
    subst hx
    obtain ⟨i, j, k, e⟩ := w5.c1
    exact ⟨i, j, k, by rw [upd_ne hpc.symm]; exact e⟩
  · rw [mkAut_moves L g1.len]
    obtain ⟨kvs, k1, k2, k3⟩ := g25.ex
    have hne : dw ≠ pd := fun e => by
      subst e
      rw [hd5] at k1
      cases k1
      have := congrArg List.length k2
      rw [ways_keys g1.len] at this
      have h1 := L.l1
      simp at this
      omega
    exact ⟨kvs, by rw [upd_ne hne]; exact k1, k2, dps_updK (noLs_ways _ _) hd5 k3⟩
theorem len_ways {rows : List (List Nat)} {dw : Addr} (L : Lts l) (R : RowsOk l N rows) (hd : Gv [c] ta σ H (.ref dw)) (D : DictAt K H dw (waysD l rows)) (w : Wm [c] H) (hs : Gd K [c] tb σ H (.str (tx l))) : Gd K [c] (tCB (rLenSeq K) (tCons (tDGet ta (tOp rIxS tb (tC (.int 0)))) tNil)) σ H (.int (N : Int)) := by
  have h1 := L.l1
  have h3 := L.l3
  obtain ⟨r, e1, e2⟩ := lookup_zip (ls := l) (rs := rows) (c := l.getD 0 0) R.len (by rw [getD_of (by omega)]; exact List.getElem_mem _)
  have hl : lkD (waysD l rows) (ck (l.getD 0 0)) = some (rowD r) := by
    have e3 : waysD l rows = l.map fun c => (ck c, rowD (((l.zip rows).lookup c).getD [])) := zip_row (L.asc.imp fun {a b} h => Nat.ne_of_lt h) R.len
    rw [e3, lkD_map (by rw [getD_of (by omega)]; exact List.getElem_mem _), e1]
    rfl
  exact gd_lenT (n := N) (ga_cons (K := K) (gd_dget (k := ck (l.getD 0 0)) hd (gd_ixS (i := 0) hs gd_i (by omega) (by omega)) D w (.inr (noLs_ways _ _)) hl) ga_nil (.inr (noL_row _))) (by rw [List.length_map]; exact (R.row r e2).1.symm)
theorem h_asgC {P : V → Hp → Prop} {D : Ends} {i : Nat} (h : Gets [c] te σ H P) (w : IsCup H c) (k : ∀ v H1, Sm [c] H H1 → IsCup H1 c → P v H1 → D.nx (σ.set i (some v)) H1) : tAsg te (gName i) D σ H := h.goW (wm1 w) fun v H1 s w p => k v H1 s w.c1 p
theorem rq_ifP {tt : TT} {tu tw u : TS} {D : Ends} {m : List Addr} {PB : Bool → Hp → Prop} (h : GetsTP m tt σ H PB) (w : Wm m H) (h1 : ∀ H1, Sm m H H1 → Wm m H1 → tu { D with nx := u D } σ H1) (h2 : ∀ H1, Sm m H H1 → Wm m H1 → tw { D with nx := u D } σ H1) : tSeq (tIfS tt tu tw) u D σ H :=
  h H (Sm.refl _ _) w (fun b H1 => if b = true then tu { D with nx := u D } σ H1 else tw { D with nx := u D } σ H1) fun b H1 s1 w1 _ => by
    cases b with
    | true => exact iteT (h1 H1 s1 w1)
    | false => exact iteF (h2 H1 s1 w1)
theorem gets_pickZ {zs : List Int} {p : Int → Prop} (ha : Gv [c] ta σ H (.ref c)) (hb : GetsA [c] t σ H (fun vs _ => vs = zs.map V.int)) (h1 : 1 ≤ zs.length) (h2 : zs.length ≤ 1000) (hp : ∀ z ∈ zs, p z) : GdZ [c] (tCall (sp_pick K) [] E0 (tCons ta (tCons (tLst t) tNil))) σ H p :=
  gets_pickN (K := K) (PA := fun vs _ => vs = zs.map V.int) ha hb (fun vs _ e => by subst e; rw [List.length_map]; exact ⟨h1, h2⟩) fun vs _ _ e _ _ x hx => by
    subst e
    obtain ⟨z, hz, rfl⟩ := List.mem_map.mp hx
    exact ⟨z, rfl, hp z hz⟩
end
section
variable {P : Program} {w : World} {K : PySem.W.Frag} {mg : Str → Option Value} {base : Heap} {f C : Addr} {fd : FuncData}
abbrev N__law_turner : List Str := ["_law_cup_here", "_law_signs_here", "_law_lot", "_law_ways"]
theorem sc__law_turner : FnScope N__law_turner ["_law_cup_here", "_law_signs_here"] (defScope s__law_turner) := ⟨rfl, rfl, rfl, by decide +kernel, rfl, by decide +kernel, by decide +kernel⟩
def sp_plain (K : PySem.W.Frag) : Sp := fun vs H Q _ => ∃ (c : Addr) (l : List Nat), vs = [.ref c, .str (tx l)] ∧ IsCup H c ∧ Lts l ∧ ∀ v H', IsPl K l v H' → Sm [c] H H' → IsCup H' c → Q v H'
theorem ok_turner (F : Fun K "_law_turner" "_law_turner" s__law_turner f fd) (T : Txt K mg C) (G_law_bit : Ok1 P w K mg base "_law_bit" ["_law_cup_here", "_law_much"] 1 sp_bit) (G_law_pick : Ok1 P w K mg base "_law_pick" ["_law_cup_here", "_law_items"] 2 (sp_pick K))
    (G_law_turning_ways : Ok1 P w K mg base "_law_turning_ways" ["_law_cup_here", "_law_signs_here", "_law_many"] 3 (sp_ways K)) (G_law_ring_ways : Ok1 P w K mg base "_law_ring_ways" ["_law_cup_here", "_law_signs_here", "_law_many"] 2 (sp_ways K)) (G_law_pair_ways : Ok1 P w K mg base "_law_pair_ways" ["_law_cup_here", "_law_signs_here", "_law_many"] 2 (sp_pair_ways K))
    (G_law_some_of : Ok1 P w K mg base "_law_some_of" ["_law_cup_here", "_law_many"] 2 (sp_some_of K)) : FnOk P w K mg base CX0 4 f fd ["_law_cup_here", "_law_signs_here"] (sp_plain K) := by
  refine F.ok sc__law_turner (fun vs H Q E h => ?_) (fun cdv A outer s H vs Q E hr h => ?_)
  · obtain ⟨c, l, rfl, _⟩ := h
    rfl
  · obtain ⟨c, l, rfl, hc, L, q⟩ := h
    have nd := sc__law_turner.nd
    have hu := hu_of hr
    refine ⟨_, (pss_cons  (ps_set (i := 2) nd rfl (.inl rfl) (pe_callP G_law_bit hr (by rfl) (pa_cons (pv 0) (pa_cons pe_int pa_nil))))
  (pss_cons  (ps_if (pt_cmpR op_eq (pv 2) pe_int (nomark _)) 
    (pss_one  (ps_set (i := 3) nd rfl (.inl rfl) (pe_callP G_law_turning_ways hr (by rfl) (pa_cons (pv 0) (pa_cons (pv 1) (pa_cons (pe_op op_add pe_int (pe_callP G_law_bit hr (by rfl) (pa_cons (pv 0) (pa_cons pe_int pa_nil)))) pa_nil)))))) 
    (pss_one  (ps_if (pt_cmpR op_lt (pv 2) pe_int (nomark _)) 
      (pss_one  (ps_set (i := 3) nd rfl (.inl rfl) (pe_callP G_law_ring_ways hr (by rfl) (pa_cons (pv 0) (pa_cons (pv 1) (pa_cons (pe_callP G_law_pick hr (by rfl) (pa_cons (pv 0) (pa_cons (pe_lst (pa_cons pe_int (pa_cons pe_int (pa_cons pe_int (pa_cons pe_int (pa_cons pe_int (pa_cons pe_int (pa_cons pe_int (pa_cons pe_int pa_nil))))))))) pa_nil))) pa_nil)))))) 
      (pss_one  (ps_set (i := 3) nd rfl (.inl rfl) (pe_callP G_law_pair_ways hr (by rfl) (pa_cons (pv 0) (pa_cons (pv 1) (pa_cons (pe_callP G_law_pick hr (by rfl) (pa_cons (pv 0) (pa_cons (pe_lst (pa_cons pe_int (pa_cons pe_int (pa_cons pe_int pa_nil)))) pa_nil))) pa_nil)))))))))
  (pss_one  (ps_ret (pe_disp (pps_cons pe_str (pv 1) (pps_cons pe_str (pv 3) (pps_cons pe_str (pe_callP G_law_some_of hr (by rfl) (pa_cons (pv 0) (pa_cons (pe_callB (lenSeq_ K) (by rfl) T.len PySem.boot_len (pa_cons (pe_dget hu (pv 3) (pe_ix ix_str (pv 1) pe_int (fun _ _ => rfl)) (fun _ _ => rfl)) pa_nil)) pa_nil))) pps_nil))) (by rfl) (by rfl) (fun z => by cases z) (by decide)))))), ?_⟩
    -- the last statement
    have fin : ∀ (N : Nat) (rows : List (List Nat)) (dw : Addr) (w2 : Option V) (H4 : Hp), 1 ≤ N → N ≤ 9 → RowsOk l N rows → DictAt K H4 dw (waysD l rows) → Sm [c] H H4 → IsCup H4 c →
        (tRet (tDisp [(tC (.str "signs"), tVar 1), (tC (.str "ways"), tVar 3), (tC (.str "good"), tCall (sp_some_of K) [] E0 (tCons (tVar 0) (tCons (tCB (rLenSeq K) (tCons (tDGet (tVar 3) (tOp rIxS (tVar 1) (tC (.int 0)))) tNil)) tNil)))])) ⟨fun _ H' => Q .non H', Q, fun _ _ => False, fun _ _ => False⟩ [some (.ref c), some (.str (tx l)), w2, some (.ref dw)] H4 := fun N rows dw w2 H4 hN1 hN9 R D s4 hc4 => by
      refine r_retC (gets_plain (K := K) L hN1 hN9 (gd_vs rfl) ((gv_var rfl).imp fun v H5 s5 _ e => ⟨rows, dw, e, R, D.sm s5 (wm1 hc4) (.inr (noLs_ways _ _))⟩) (gets_someof (K := K) (N := N) (gv_var rfl) (len_ways L R (gv_var rfl) D (wm1 hc4) (gd_vs rfl)) (by omega))) hc4 fun v H5 s5 hc5 p => q v H5 p (s4.trans s5) hc5
    refine rq_asgC (gets_bit (K := K) (n := 5) (gv_var rfl) gd_i (by omega) (by omega)) hc fun v2 H2 s2 hc2 p2 => ?_
    obtain ⟨lot, rfl, hlot⟩ := p2
    refine rq_if (b := decide ((lot : Int) = 0)) (gt_test (K := K) (gd_op (gd_vi rfl) gd_i rd_eqI)) (fun h H3 s3 => ?_) fun h H3 s3 => ?_
    · have hc3 := (wm1 hc2).same s3.same |>.c1
      refine h_asgC (gets_wcallR (K := K) (l := l) (p := fun x => 2 ≤ x ∧ x ≤ 5) (fun N => N) (fun z h => by omega) (fun N hN c H Q E hc k => ⟨c, l, N, rfl, hc, L, by omega, by omega, k⟩) (gv_var rfl) (gd_vs rfl) (gz_op0 (p := fun x => x = 2) (q := fun x => 0 ≤ x ∧ x < ((4 : Nat) : Int)) gz_c (gz_bit (K := K) (n := 4) (gv_var rfl) gd_i (by omega) (by omega)) fun a b h1 h2 => by omega)) hc3 fun v H4 s4 hc4 p4 => ?_
      obtain ⟨N, hN, rows, dw, rfl, R, D⟩ := p4
      exact fin N rows dw _ H4 (by omega) (by omega) R D ((s2.trans s3.weak).trans s4) hc4
    · have hc3 := (wm1 hc2).same s3.same |>.c1
      refine r_if (b := decide ((lot : Int) < 3)) (gt_test (K := K) (gd_lt (gd_vi rfl) gd_i)) (fun h H4 s4 => ?_) fun h H4 s4 => ?_
      · have hc4 := (wm1 hc3).same s4.same |>.c1
        refine h_asgC (gets_wcallR (K := K) (l := l) (p := fun x => 2 ≤ x ∧ x ≤ 9) (fun N => N) (fun z h => by omega) (fun N hN c H Q E hc k => ⟨c, l, N, rfl, hc, L, by omega, by omega, k⟩) (gv_var rfl) (gd_vs rfl) (gets_pickZ (K := K) (zs := [2, 3, 4, 5, 6, 7, 8, 9]) (gv_var rfl) (gA_v gv_c (gA_v gv_c (gA_v gv_c (gA_v gv_c (gA_v gv_c (gA_v gv_c (gA_v gv_c (gA_v gv_c gA_nil)))))))) (by simp) (by simp) fun z hz => by
          simp only [List.mem_cons, List.not_mem_nil, or_false] at hz
          omega)) hc4 fun v H5 s5 hc5 p5 => ?_
        obtain ⟨N, hN, rows, dw, rfl, R, D⟩ := p5
        exact fin N rows dw _ H5 (by omega) (by omega) R D (((s2.trans s3.weak).trans s4.weak).trans s5) hc5
      · have hc4 := (wm1 hc3).same s4.same |>.c1
        refine h_asgC (gets_wcallR (K := K) (l := l) (p := fun x => 2 ≤ x ∧ x ≤ 3) (fun N => N * N) (fun z h => by omega) (fun N hN c H Q E hc k => ⟨c, l, N, rfl, hc, L, by omega, by omega, k⟩) (gv_var rfl) (gd_vs rfl) (gets_pickZ (K := K) (zs := [2, 2, 3]) (gv_var rfl) (gA_v gv_c (gA_v gv_c (gA_v gv_c gA_nil))) (by simp) (by simp) fun z hz => by
          simp only [List.mem_cons, List.not_mem_nil, or_false] at hz
          omega)) hc4 fun v H5 s5 hc5 p5 => ?_
        obtain ⟨N, hN, rows, dw, rfl, R, D⟩ := p5
        have hNN : 1 ≤ N * N ∧ N * N ≤ 9 := by
          have : N = 2 ∨ N = 3 := by omega
          rcases this with rfl | rfl <;> decide
        exact fin (N * N) rows dw _ H5 hNN.1 hNN.2 R D (((s2.trans s3.weak).trans s4.weak).trans s5) hc5
abbrev N__law_plain_reader : List Str := ["_law_cup_here", "_law_signs_here", "_law_many"]
theorem sc__law_plain_reader : FnScope N__law_plain_reader ["_law_cup_here", "_law_signs_here"] (defScope s__law_plain_reader) := ⟨rfl, rfl, rfl, by decide +kernel, rfl, by decide +kernel, by decide +kernel⟩
theorem ok_plain_reader (F : Fun K "_law_plain_reader" "_law_plain_reader" s__law_plain_reader f fd) (T : Txt K mg C) (G_law_bit : Ok1 P w K mg base "_law_bit" ["_law_cup_here", "_law_much"] 1 sp_bit) (G_law_turner : Ok1 P w K mg base "_law_turner" ["_law_cup_here", "_law_signs_here"] 4 (sp_plain K))
    (G_law_any_ways : Ok1 P w K mg base "_law_any_ways" ["_law_cup_here", "_law_signs_here", "_law_many"] 2 (sp_ways K)) (G_law_some_of : Ok1 P w K mg base "_law_some_of" ["_law_cup_here", "_law_many"] 2 (sp_some_of K)) : FnOk P w K mg base CX0 5 f fd ["_law_cup_here", "_law_signs_here"] (sp_plain K) := by
  refine F.ok sc__law_plain_reader (fun vs H Q E h => ?_) (fun cdv A outer s H vs Q E hr h => ?_)
  · obtain ⟨c, l, rfl, _⟩ := h
    rfl
  · obtain ⟨c, l, rfl, hc, L, q⟩ := h
    have nd := sc__law_plain_reader.nd
    have hu := hu_of hr
    refine ⟨_, (pss_cons  (ps_if (pt_cmpR op_eq (pe_callP G_law_bit hr (by rfl) (pa_cons (pv 0) (pa_cons pe_int pa_nil))) pe_int (nomark _)) 
    (pss_one  (ps_ret (pe_callP G_law_turner hr (by rfl) (pa_cons (pv 0) (pa_cons (pv 1) pa_nil))))) pss_nil)
  (pss_cons  (ps_set (i := 2) nd rfl (.inl rfl) (pe_op op_add pe_int (pe_callP G_law_bit hr (by rfl) (pa_cons (pv 0) (pa_cons pe_int pa_nil)))))
  (pss_one  (ps_ret (pe_disp (pps_cons pe_str (pv 1) (pps_cons pe_str (pe_callP G_law_any_ways hr (by rfl) (pa_cons (pv 0) (pa_cons (pv 1) (pa_cons (pv 2) pa_nil)))) (pps_cons pe_str (pe_callP G_law_some_of hr (by rfl) (pa_cons (pv 0) (pa_cons (pv 2) pa_nil))) pps_nil))) (by rfl) (by rfl) (fun z => by cases z) (by decide)))))), ?_⟩
    refine rq_ifP (gt_bit0 (K := K) (n := 2) (gv_var rfl) gd_i (by omega) (by omega)) (wm1 hc) (fun H1 s1 w1 => ?_) fun H1 s1 w1 => ?_
    · refine r_retC (P := IsPl K l) (fun H2 s2 w2 Q k => ⟨.ref c, rfl, .str (tx l), rfl, c, l, rfl, w2.c1, L, fun v H3 p s3 w3 => k v H3 s3 (wm1 w3) p⟩) w1.c1 fun v H2 s2 hc2 p => q v H2 p (s1.trans s2) hc2
    · refine rq_asgC (P := fun v _ => ∃ z : Int, v = .int z ∧ 1 ≤ z ∧ z ≤ 6) (gz_op0 (p := fun x => x = 1) (q := fun x => 0 ≤ x ∧ x < ((6 : Nat) : Int)) gz_c (gz_bit (K := K) (n := 6) (gv_var rfl) gd_i (by omega) (by omega)) fun a b h1 h2 => by omega) w1.c1 fun v2 H2 s2 hc2 p2 => ?_
      obtain ⟨z, rfl, hz⟩ := p2
      have ez : z = ((z.toNat : Nat) : Int) := by omega
      rw [ez]
      generalize z.toNat = N at *
      refine r_retC (gets_plain (K := K) (N := N) L (by omega) (by omega) (gd_vs rfl) (gets_wcall (K := K) (N := N) (N' := N) (fun c H Q E hc k => ⟨c, l, N, rfl, hc, L, by omega, by omega, k⟩) (gv_var rfl) (gd_vs rfl) (gd_vi rfl)) (gets_someof (K := K) (N := N) (gv_var rfl) (gd_vi rfl) (by omega))) hc2 fun v H3 s3 hc3 p => q v H3 p ((s1.trans s2).trans s3) hc3
abbrev N__law_made_reader : List Str := ["_law_plain"]
theorem sc__law_made_reader : FnScope N__law_made_reader ["_law_plain"] (defScope s__law_made_reader) := ⟨rfl, rfl, rfl, by decide +kernel, rfl, by decide +kernel, by decide +kernel⟩
def sp_made (K : PySem.W.Frag) (C : Addr) : Sp := fun vs H Q _ => ∃ (A : Aut) (p dw ty : Addr), vs = [.ref p] ∧ A.Ok ∧ PlAt K H p A dw ty ∧ GivesR K C H Q A
theorem ok_made_reader (F : Fun K "_law_made_reader" "_law_made_reader" s__law_made_reader f fd) (T : Txt K mg C) (RM : RdMk P w K mg base C) : FnOk P w K mg base CX0 7 f fd ["_law_plain"] (sp_made K C) := by
  refine F.ok sc__law_made_reader (fun vs H Q E h => ?_) (fun cdv A outer s H vs Q E hr h => ?_)
  · obtain ⟨A, p, dw, ty, rfl, _⟩ := h
    rfl
  · obtain ⟨A, p, dw, ty, rfl, ok, R, q⟩ := h
    have nd := sc__law_made_reader.nd
    have hu := hu_of hr
    refine ⟨_, (pss_one  (ps_ret (pe_mkR RM hr (pa_cons (pe_dget hu (pv 0) pe_str (fun _ _ => rfl)) (pa_cons (pe_dget hu (pv 0) pe_str (fun _ _ => rfl)) (pa_cons (pe_dget hu (pv 0) pe_str (fun _ _ => rfl)) pa_nil)))))), ?_⟩
    refine r_ret (gets_make (A := A) ok (GetsA.imp (gA_cons (gv_str (gd_signs (K := K) (gv_var rfl) R Wm.nil)) (fun _ _ _ _ _ p => p) (gA_cons (gv_ways (gv_var rfl) R Wm.nil) (fun _ _ _ _ _ p => p) (gA_cons (gv_key (gv_var rfl) Wm.nil R.ob pl_good) (fun _ _ _ s w p => p) gA_nil))) fun vs H7 s7 w7 hvs => ?_)) fun v H7 s7 p7 => ?_
    · obtain ⟨v1, q1, rfl, rfl, v2, q2, rfl, rfl, v3, q3, rfl, rfl, rfl⟩ := hvs
      exact ⟨dw, ty, rfl, (R.sm0 s7).mv, (R.sm0 s7).ys⟩
    · obtain ⟨r', rfl, hR⟩ := p7
      exact q r' H7 s7 hR
abbrev N__law_read : List Str := ["_law_plain", "_law_at", "_law_line_here", "_law_sign"]
theorem sc__law_read : FnScope N__law_read ["_law_plain", "_law_at", "_law_line_here"] (defScope s__law_read) := ⟨rfl, rfl, rfl, by decide +kernel, rfl, by decide +kernel, by decide +kernel⟩
def sp_read (K : PySem.W.Frag) : Sp := fun vs H Q _ => ∃ (B : Aut) (T : List (List Nat)) (p dw ty ll : Addr) (s : Nat) (l : List Nat), vs = [.ref p, .int (s : Int), .str (tx l)] ∧ B.Ok ∧ LnAt K H p B T dw ty ll ∧ s < B.n ∧ Over B.ls l ∧ Gives K H Q (.int (B.run s l : Int))
theorem ok_read (F : Fun K "_law_read" "_law_read" s__law_read f fd) (T : Txt K mg C) : FnOk P w K mg base CX0 1 f fd ["_law_plain", "_law_at", "_law_line_here"] (sp_read K) := by
  refine F.ok sc__law_read (fun vs H Q E h => ?_) (fun cdv A outer s H vs Q E hr h => ?_)
  · obtain ⟨B, Tx, p, dw, ty, ll, s, l, rfl, _⟩ := h
    rfl
  · obtain ⟨B, Tx, p, dw, ty, ll, n, l, rfl, ok, R, hn, ho, q⟩ := h
    have nd := sc__law_read.nd
    have hu := hu_of hr
    refine ⟨_, (pss_cons  (ps_for PassesOwn.never rfl (pi_str (pv 2)) (pg_name (i := 3) nd rfl (.inl rfl)) 
    (pss_one  (ps_set (i := 1) nd rfl (.inl rfl) (pe_ix (ixT_ K) (pe_dget hu (pe_dget hu (pv 0) pe_str (fun _ _ => rfl)) (pv 3) (fun _ _ => rfl)) (pv 1) (fun _ _ => rfl)))))
  (pss_one  (ps_ret (pv 1)))), ?_⟩
    refine rq_for1 (K := K) (src_str (l := l) (gd_vs rfl)) (fun i σ' H' => ∃ v, σ' = [some (.ref p), some (.int (B.run n (l.take i) : Int)), some (.str (tx l)), v]) (fun H1 _ => ⟨none, rfl⟩) (fun i x σ' H' N hi s hP hx k => ?_) fun σ' H' s hP => ?_
    · obtain ⟨v, rfl⟩ := hP
      cases dp_str hx
      have hm : l.getD i 0 ∈ B.ls := ho _ (by rw [getD_of hi]; exact List.getElem_mem hi)
      have hov : Over B.ls (l.take i) := fun c hc => ho c (List.mem_of_mem_take hc)
      refine r_asg (gd_lmv (K := K) (c := l.getD i 0) (i := B.run n (l.take i)) ok (gv_var rfl) (R.sm0 s) (gd_vs rfl) hm (gd_vi rfl) (run_lt ok hov hn)) fun v H1 s1 p => k _ _ s1 ⟨some (.str (tx [l.getD i 0])), ?_⟩
      cases dp_int p
      rw [run_take hi]
      rfl
    · obtain ⟨v, rfl⟩ := hP
      rw [List.take_length]
      exact r_ret (gd_vi (K := K) rfl) fun v H1 s1 p => q v H1 (s.trans s1) p
end
end K29
namespace K29
open PySem PySem.Spec PyProof.Rows L2
theorem eqv_nil (X : List PyData) : PyData.eqv (.list X) (.list []) = X.isEmpty := by
  cases X with
  | nil => rfl
  | cons a X => simp [PyData.eqv, PyData.eqvAll]
theorem lay_texts : ∀ {Y : List (List Nat)}, (∀ y ∈ Y, ∀ c ∈ y, c < 1000) → PyData.canLayAll0 (Y.map fun w => PyData.str (tx w)) = true ∧ PyData.depthAll (Y.map fun w => PyData.str (tx w)) = 0
  | [], _ => ⟨rfl, rfl⟩
  | y :: Y, h => by
    obtain ⟨h1, h2⟩ := lay_texts (Y := Y) fun z hz => h z (List.mem_cons_of_mem _ hz)
    have h3 := strOk_codes (h y List.mem_cons_self)
    rw [List.map_cons]
    exact ⟨by simp [PyData.canLayAll0, PyData.canLay0, h3, h1], by simp [PyData.depthAll, PyData.depth, h2]⟩
theorem shaped_texts {Y : List (List Nat)} (h : ∀ y ∈ Y, ∀ c ∈ y, c < 1000) : SeqAt.shaped (.list (Y.map fun w => PyData.str (tx w))) = true := by
  obtain ⟨h1, h2⟩ := lay_texts h
  unfold SeqAt.shaped
  simp [PyData.canLay0, PyData.depth, h1, h2]
theorem shaped_textsT {Y : List (List Nat)} (h : ∀ y ∈ Y, ∀ c ∈ y, c < 1000) : SeqAt.shaped (.tuple (Y.map fun w => PyData.str (tx w))) = true := by
  obtain ⟨h1, h2⟩ := lay_texts h
  unfold SeqAt.shaped
  simp [PyData.canLay0, PyData.depth, h1, h2]
/-- the signs of a text that are no letters -/
def odd (ls l : List Nat) : List (List Nat) := ((List.range l.length).filter fun i => !decide (l.getD i 0 ∈ ls)).map fun i => [l.getD i 0]
theorem odd_nil {ls l : List Nat} : (odd ls l).isEmpty = decide (∀ c ∈ l, c ∈ ls) := by
  by_cases h : ∀ c ∈ l, c ∈ ls
  · rw [decide_eq_true h]
    unfold odd
    rw [List.filter_eq_nil_iff.mpr fun i hi => ?_]
    · rfl
    · have hi' := List.mem_range.mp hi
      have := h (l.getD i 0) (by rw [getD_of hi']; exact List.getElem_mem _)
      show ¬(!decide (l.getD i 0 ∈ ls)) = true
      rw [decide_eq_true this]
      simp
  · rw [decide_eq_false h]
    obtain ⟨c, hc⟩ := Classical.not_forall.mp h
    obtain ⟨hc1, hc2⟩ := Classical.not_imp.mp hc
    obtain ⟨i, hi, e⟩ := List.getElem_of_mem hc1
    have : [l.getD i 0] ∈ odd ls l := List.mem_map.mpr ⟨i, List.mem_filter.mpr ⟨List.mem_range.mpr hi, by rw [getD_of hi, e]; simp [hc2]⟩, rfl⟩
    cases h2 : odd ls l with
    | nil => rw [h2] at this; simp at this
    | cons x r => rfl
section
variable {P : Program} {w : World} {K : PySem.W.Frag} {mg : Str → Option Value} {base : Heap} {f C : Addr} {fd : FuncData}
section
variable {σ : L2.St} {H : Hp} {ta tb te : TE} {t : TA}
theorem gd_oddL {ls l : List Nat} {td : TE} {j : Nat} {vs : List Nat} (ha : Gd K [] ta σ H (.str (tx l))) (hl : l.length ≤ 40000) (hs : ∀ H', Sm [] H H' → ∀ x, Gd K [] td ((wipe σ vs).set j (some x)) H' (.str (tx ls))) (hw : ∀ x, wipe ((wipe σ vs).set j (some x)) vs = wipe σ vs) (hj : j < σ.length) :
    Gd K [] (tLc (iStr ta) (gName j) (tTest (tOp (fun x y H Q => ∃ (c : Nat) (z : Str), x = V.str ⟨#[c]⟩ ∧ y = V.str z ∧ Q (.bl (!decide (c ∈ z.cps.toList))) H) (tVar j) td)) (tVar j) vs) σ H (textsD (odd ls l)) := by
  have hv : ∀ x : V, ((wipe σ vs).set j (some x))[j]? = some (some x) := fun x => List.getElem?_set_self (by rw [wipe_length]; exact hj)
  refine Gets.is (gd_lcF1 (K := K) (n := l.length) (fun i => !decide (l.getD i 0 ∈ ls)) (fun i => .str (tx [l.getD i 0])) (src_str ha) (by omega) (fun i x H' hi s w hx => ?_) (fun i x H' hi hf s w hx => gd_var (hv x) w hx) (hw := hw)) (by unfold textsD odd; rw [List.map_map]; rfl)
  cases dp_str hx
  exact gt_test (K := K) (gd_notIn1 (gd_vs (hv _)) (hs H' s _))
theorem gd_readl {B : Aut} {T : List (List Nat)} {q dw ty ll : Addr} {s : Nat} {l : List Nat} (ok : B.Ok) (hq : Gv [] ta σ H (.ref q)) (R : LnAt K H q B T dw ty ll) (hs : s < B.n) (hb : Gd K [] tb σ H (.int (s : Int))) (hc : Gd K [] te σ H (.str (tx l))) (ho : Over B.ls l) : Gd K [] (tCall (sp_read K) [] E0 (tCons ta (tCons tb (tCons te tNil)))) σ H (.int (B.run s l : Int)) := fun H1 s1 w1 Q k =>
  hq H1 s1 w1 _ fun v H2 s2 w2 p => hb H2 (s1.trans s2) w2 _ fun v2 H3 s3 w3 p3 => hc H3 ((s1.trans s2).trans s3) w3 _ fun v4 H4 s4 w4 p4 => by
    subst p
    cases dp_int p3
    cases dp_str p4
    exact ⟨B, T, q, dw, ty, ll, s, l, rfl, ok, R.sm0 (((s1.trans s2).trans s3).trans s4), hs, ho, fun v H5 s5 p5 => k v H5 (((s2.trans s3).trans s4).trans s5) Wm.nil p5⟩
end
abbrev N__law_is_due : List Str := ["_law_plain", "_law_lean_here", "_law_value", "_law_one", "_law_other", "_law_sign"]
theorem sc__law_is_due : FnScope N__law_is_due ["_law_plain", "_law_lean_here", "_law_value"] (defScope s__law_is_due) := ⟨rfl, rfl, rfl, by decide +kernel, rfl, by decide +kernel, by decide +kernel⟩
def sp_is_due (K : PySem.W.Frag) : Sp := fun vs H Q _ => ∃ (A B : Aut) (T : List (List Nat)) (p q dw ty dw' ty' ll : Addr) (v : V) (x : Option (List Nat × List Nat × List Nat)), vs = [.ref p, .ref q, v] ∧ A.Ok ∧ PlAt K H p A dw ty ∧ LeastOf A B T ∧ LnAt K H q B T dw' ty' ll ∧ MV K H v x ∧
  (∀ a b c, x = some (a, b, c) → ∀ z ∈ a ++ b ++ c, z < 1000) ∧ Gives K H Q (.bool (due A B x))
theorem ok_is_due (F : Fun K "_law_is_due" "_law_is_due" s__law_is_due f fd) (T : Txt K mg C) (G_law_read : Ok1 P w K mg base "_law_read" ["_law_plain", "_law_at", "_law_line_here"] 1 (sp_read K)) : FnOk P w K mg base CX0 2 f fd ["_law_plain", "_law_lean_here", "_law_value"] (sp_is_due K) := by
  refine F.ok sc__law_is_due (fun vs H Q E h => ?_) (fun cdv A outer s H vs Q E hr h => ?_)
  · obtain ⟨A, B, Tx, p, q, dw, ty, dw', ty', ll, v, x, rfl, _⟩ := h
    rfl
  · obtain ⟨A, B, Tx, p, q, dw, ty, dw', ty', ll, v, x, rfl, ok, R, L, RL, hv, hcod, k⟩ := h
    have nd := sc__law_is_due.nd
    have hu := hu_of hr
    refine ⟨_, (pss_cons  (ps_if (PW.pt (pw_or (pt_not (pt_val (pe_callB (isi_ K) (by rfl) T.isinstance (by decide +kernel) (pa_cons (pv 2) (pa_cons (pe_ty (n := "tuple") (by rfl) T.tuple (by decide +kernel)) pa_nil))))) (pw_or (pt_cmpR op_ne (pe_callB (lenSeq_ K) (by rfl) T.len PySem.boot_len (pa_cons (pv 2) pa_nil)) pe_int (nomark _)) (pw_or1 (pt_cmpR (neD_ K hr.units) (pe_lc (own := [("_law_one", 3)]) rfl nd (pi_tupK (K := K) (pv 2)) (blkOk_by (N := N__law_is_due) (sc := defScope s__law_is_due) (by decide +kernel)) (fun _ _ _ _ _ => (pg_name (i := 3) nd rfl (.inl rfl) (hf := .inr rfl))) (fun _ _ _ _ _ => (pts_one (pt_not (pt_val (pe_callB (isi_ K) (by rfl) T.isinstance (by decide +kernel) (pa_cons (pv 3) (pa_cons (pe_ty (n := "str") (by rfl) T.str (by decide +kernel)) pa_nil))))))) (fun _ _ _ _ _ => (pv 3))) (pe_lst pa_nil) (nomark _)))))) 
    (pss_one  (ps_ret pe_bl)) pss_nil)
  (pss_cons  (ps_if (PW.pt (pw_or (pt_cmpR op_ne (pe_callB call_len_str (by rfl) T.len PySem.boot_len (pa_cons (pe_ix (ixT_ K) (pv 2) pe_int (fun _ _ => rfl)) pa_nil)) pe_int (nomark _)) (pw_or1 (pt_cmpR (neD_ K hr.units) (pe_lc (own := [("_law_sign", 5)]) rfl nd (pi_str (pe_op op_add_str (pe_op op_add_str (pe_ix (ixT_ K) (pv 2) pe_int (fun _ _ => rfl)) (pe_ix (ixT_ K) (pv 2) pe_int (fun _ _ => rfl))) (pe_ix (ixT_ K) (pv 2) pe_int (fun _ _ => rfl)))) (blkOk_by (N := N__law_is_due) (sc := defScope s__law_is_due) (by decide +kernel)) (fun _ _ _ _ _ => (pg_name (i := 5) nd rfl (.inl rfl) (hf := .inr rfl))) (fun _ _ _ _ _ => (pts_one (pt_cmpR op_notIn_sign (pv 5) (pe_dget hu (pv 0) pe_str (fun _ _ => rfl)) (by rfl)))) (fun _ _ _ _ _ => (pv 5))) (pe_lst pa_nil) (nomark _))))) 
    (pss_one  (ps_ret pe_bl)) pss_nil)
  (pss_cons  (ps_if (PW.pt (pw_or (pt_cmpR op_gt (pe_callB call_len_str (by rfl) T.len PySem.boot_len (pa_cons (pe_ix (ixT_ K) (pv 2) pe_int (fun _ _ => rfl)) pa_nil)) pe_int (nomark _)) (pw_or1 (pt_cmpR op_gt (pe_callB call_len_str (by rfl) T.len PySem.boot_len (pa_cons (pe_ix (ixT_ K) (pv 2) pe_int (fun _ _ => rfl)) pa_nil)) pe_int (nomark _))))) 
    (pss_one  (ps_ret pe_bl)) pss_nil)
  (pss_cons  (ps_par (i := 3) (j := 4) rfl nd rfl rfl (by decide) rfl rfl (pa_cons (pe_callP G_law_read hr (by rfl) (pa_cons (pv 1) (pa_cons pe_int (pa_cons (pe_ix (ixT_ K) (pv 2) pe_int (fun _ _ => rfl)) pa_nil)))) (pa_cons (pe_callP G_law_read hr (by rfl) (pa_cons (pv 1) (pa_cons pe_int (pa_cons (pe_ix (ixT_ K) (pv 2) pe_int (fun _ _ => rfl)) pa_nil)))) pa_nil)) (by rfl))
  (pss_one  (ps_ret (pe_and (pe_cmpR op_ne (pv 3) (pv 4) (nomark _)) (pe_one (pe_cmpR op_eq (pe_ix (ixT_ K) (pe_dget hu (pe_dget hu (pv 1) pe_str (fun _ _ => rfl)) (pe_ix (ixT_ K) (pv 2) pe_int (fun _ _ => rfl)) (fun _ _ => rfl)) (pv 3) (fun _ _ => rfl)) (pe_ix (ixT_ K) (pe_dget hu (pe_dget hu (pv 1) pe_str (fun _ _ => rfl)) (pe_ix (ixT_ K) (pv 2) pe_int (fun _ _ => rfl)) (fun _ _ => rfl)) (pv 4) (fun _ _ => rfl)) (nomark _)))))))))), ?_⟩
    have fin : ∀ {H1 : Hp} {D : Ends}, Sm [] H H1 → due A B x = false → D.rt = Q → tRet (tC (.bl false)) D (start N__law_is_due [.ref p, .ref q, v]) H1 := fun {H1 D} s1 e eD => by
      rw [e] at k
      refine r_ret (K29.gd_b (K := K)) fun v' H2 s2 p2 => ?_
      rw [eD]
      exact k v' H2 (s1.trans s2) p2
    cases hv with
    | @data _ d h1 h2 h3 =>
      exact rq_if (b := true) (gt_or (a := true) (b := true) (gt_not (a := false) (gt_B (K := K) (gd_isi (gd_var rfl Wm.nil h1) h3))) fun h => by cases h) (fun _ H1 s1 => fin s1 rfl rfl) (fun h => by cases h)
    | @dict d kvs h1 =>
      refine rq_if (b := true) (gt_or (a := true) (b := true) (gt_not (a := false) (gt_B (K := K) (gd_cb (PA := fun vs _ => vs = [.ref d, .ty "tuple"]) (gA_v (gv_var rfl) (gA_v gv_c gA_nil)) fun vs H1 s1 w1 p Q k => ?_))) fun h => by cases h) (fun _ H1 s1 => fin s1 rfl rfl) (fun h => by cases h)
      subst p
      exact ⟨.ref d, .ty "tuple", .type "dict", .type "tuple", false, rfl, .ty "tuple", .base (.dK (s1 _ _ (by simp) h1)), kit_ty kb_dt, k _ H1 (Sm.refl _ _) w1 (.bl false)⟩
    | @tup _ ds h1 h2 h3 =>
      refine rq_if (b := true) (gt_or (a := false) (b := true) (gt_not (a := true) (gt_B (K := K) (gd_isi (gd_var rfl Wm.nil h1) kb_tt))) fun _ => gt_or (a := true) (b := true) (GetsT.is (gt_test (K := K) (gd_op (gd_lenT (n := ds.length) (ga_cons (gd_var rfl Wm.nil h1) ga_nil) rfl) gd_i rd_neI)) ?_) fun h => by cases h) (fun _ H1 s1 => fin s1 rfl rfl) (fun h => by cases h)
      rw [decide_eq_false (by omega)]; rfl
    | @nots _ a b h1 h2 h3 =>
      refine rq_if (b := true) (gt_or (a := false) (b := true) (gt_not (a := true) (gt_B (K := K) (gd_isi (gd_var rfl Wm.nil h1) kb_tt))) fun _ => gt_or (a := false) (b := true) (GetsT.is (gt_test (K := K) (gd_op (gd_lenT (n := 3) (ga_cons (gd_var rfl Wm.nil h1) ga_nil) rfl) gd_i rd_neI)) rfl) fun _ => GetsT.is (gt_test (K := K) (gd_neD (db := .list []) (gd_lcF1 (K := K) (n := 3) (fun i => decide (i = 2)) (fun i => ([.str (tx a), .str (tx b), .none] : List PyData).getD i .none) (src_tup (gd_var rfl Wm.nil h1)) (by omega) (fun i x H' hi s w hx => ?_) (fun i x H' hi hf s w hx => gd_var rfl w hx) (hno := fun i hi => ?_)) (gd_lst ga_nil (show 0 ≤ 100000 by omega)) rfl rfl)) rfl) (fun _ H1 s1 => fin s1 rfl rfl) (fun h => by cases h)
      · match i, hi with
        | 0, _ => exact gt_not (a := true) (gt_B (K := K) (gd_isi (gd_var rfl w hx) kb_ss))
        | 1, _ => exact gt_not (a := true) (gt_B (K := K) (gd_isi (gd_var rfl w hx) kb_ss))
        | 2, _ => exact gt_not (a := false) (gt_B (K := K) (gd_isi (gd_var rfl w hx) kb_ns))
      · match i, hi with
        | 0, _ => rfl
        | 1, _ => rfl
        | 2, _ => rfl
    | @three _ a b c h1 h2 h3 h4 =>
      have hcd := hcod a b c rfl
      have v0 : ∀ {σ : L2.St} {H1 : Hp}, σ[2]? = some (some v) → Sm [] H H1 → Gd K [] (tOp (rIxT K) (tVar 2) (tC (.int 0))) σ H1 (.str (tx a)) := fun hσ s => gd_ixT (n := 0) (gd_var hσ Wm.nil (dp_sm0 s h1)) gd_i rfl
      have v1 : ∀ {σ : L2.St} {H1 : Hp}, σ[2]? = some (some v) → Sm [] H H1 → Gd K [] (tOp (rIxT K) (tVar 2) (tC (.int 1))) σ H1 (.str (tx b)) := fun hσ s => gd_ixT (n := 1) (gd_var hσ Wm.nil (dp_sm0 s h1)) gd_i rfl
      have v2 : ∀ {σ : L2.St} {H1 : Hp}, σ[2]? = some (some v) → Sm [] H H1 → Gd K [] (tOp (rIxT K) (tVar 2) (tC (.int 2))) σ H1 (.str (tx c)) := fun hσ s => gd_ixT (n := 2) (gd_var hσ Wm.nil (dp_sm0 s h1)) gd_i rfl
      refine rq_not (gt_or (a := false) (b := false) (gt_not (a := true) (gt_B (K := K) (gd_isi (gd_var rfl Wm.nil h1) kb_tt))) fun _ => gt_or (a := false) (b := false) (GetsT.is (gt_test (K := K) (gd_op (gd_lenT (n := 3) (ga_cons (gd_var rfl Wm.nil h1) ga_nil) rfl) gd_i rd_neI)) rfl) fun _ => GetsT.is (gt_test (K := K) (gd_neD (da := .list []) (db := .list []) (Gets.is (gd_lcF1 (K := K) (n := 3) (fun _ => false) (fun i => .none) (src_tup (gd_var rfl Wm.nil h1)) (by omega) (fun i x H' hi s w hx => ?_) (fun i x H' hi hf s w hx => by cases hf)) rfl) (gd_lst ga_nil (show 0 ≤ 100000 by omega)) rfl rfl)) rfl) fun H1 s1 => ?_
      · match i, hi with
        | 0, _ => exact gt_not (a := true) (gt_B (K := K) (gd_isi (gd_var rfl w hx) kb_ss))
        | 1, _ => exact gt_not (a := true) (gt_B (K := K) (gd_isi (gd_var rfl w hx) kb_ss))
        | 2, _ => exact gt_not (a := true) (gt_B (K := K) (gd_isi (gd_var rfl w hx) kb_ss))
      have R1 := R.sm0 s1
      have t2 : GetsT [] (tOr (tTest (tOp rNe (tCB (fun xs H Q => ∃ z, xs = [V.str z] ∧ z.length ≤ sizeLine ∧ Q (.int z.length) H) (tCons (tOp (rIxT K) (tVar 2) (tC (.int 0))) tNil)) (tC (.int 1)))) (tTest (tOp (rNeD K) (tLc (iStr (tOp (fun x y H Q => ∃ i j, x = .str i ∧ y = .str j ∧ i.length + j.length ≤ sizeLine ∧ Q (.str (i ++ j)) H) (tOp (fun x y H Q => ∃ i j, x = .str i ∧ y = .str j ∧ i.length + j.length ≤ sizeLine ∧ Q (.str (i ++ j)) H) (tOp (rIxT K) (tVar 2) (tC (.int 0))) (tOp (rIxT K) (tVar 2) (tC (.int 1)))) (tOp (rIxT K) (tVar 2) (tC (.int 2))))) (gName 5) (tTest (tOp (fun x y H Q => ∃ (c : Nat) (z : Str), x = V.str ⟨#[c]⟩ ∧ y = V.str z ∧ Q (.bl (!decide (c ∈ z.cps.toList))) H) (tVar 5) (tDGet (tVar 0) (tC (.str "signs"))))) (tVar 5) [5]) (tLst tNil))))
          (start N__law_is_due [.ref p, .ref q, v]) H1 (!decide ((a.length : Int) = 1) || !(odd A.ls (a ++ b ++ c)).isEmpty) :=
        gt_or (gt_test (K := K) (gd_op (gd_lenStr (z := tx a) (v0 rfl s1) (by rw [tx_len]; omega)) gd_i (rd_neI (i := (a.length : Int)) (j := 1)))) fun _ => GetsT.is (gt_test (K := K) (gd_neD (da := textsD (odd A.ls (a ++ b ++ c))) (db := .list []) (gd_oddL (gd_cat (gd_cat (v0 rfl s1) (v1 rfl s1) (by omega)) (v2 rfl s1) (by rw [List.length_append]; omega)) (by rw [List.length_append, List.length_append]; omega) (fun H' s x => gd_signs (gv_var rfl) (R1.sm0 s) Wm.nil) (fun _ => rfl) (show 5 < 6 by decide)) (gd_lst ga_nil (show 0 ≤ 100000 by omega)) (shaped_texts fun y hy z hz => ?_) rfl)) (by unfold textsD; rw [eqv_nil]; cases odd A.ls (a ++ b ++ c) <;> rfl)
      · by_cases hc2 : a.length = 1 ∧ ∀ z ∈ a ++ b ++ c, z ∈ A.ls
        · obtain ⟨hal, hall⟩ := hc2
          refine rq_not (GetsT.is t2 (by rw [odd_nil, decide_eq_true hall, hal]; rfl)) fun H2 s2 => ?_
          have s12 := s1.trans s2
          obtain ⟨c0, rfl⟩ : ∃ c0, a = [c0] := by
            match a, hal with
            | [c0], _ => exact ⟨c0, rfl⟩
          have hc0 : c0 ∈ A.ls := hall c0 (by simp)
          have hob : Over A.ls b := fun z hz => hall z (by simp [hz])
          have hoc : Over A.ls c := fun z hz => hall z (by simp [hz])
          have hin : ∀ l : List Nat, Over A.ls l → inText A.ls (.str (tx l)) = decide (l.length ≤ 4000) := fun l ho => by
            show (decide ((tx l).length ≤ 4000) && (tx l).cps.toList.all fun c => decide (c ∈ A.ls)) = _
            rw [tx_list, tx_len, List.all_eq_true.mpr fun z hz => decide_eq_true (ho z hz), Bool.and_true]
          have edue : due A B (some ([c0], b, c)) = (decide (b.length ≤ 4000) && decide (c.length ≤ 4000) && isM B c0 b c) := by
            show (decide (c0 ∈ A.ls) && (inText A.ls (.str (tx b)) && inText A.ls (.str (tx c)) && isM B c0 b c)) = _
            rw [hin b hob, hin c hoc, decide_eq_true hc0, Bool.true_and]
          have t3 : GetsT [] (tOr (tTest (tOp (rI0 fun i j => .bl (decide (j < i))) (tCB (fun xs H Q => ∃ z, xs = [V.str z] ∧ z.length ≤ sizeLine ∧ Q (.int z.length) H) (tCons (tOp (rIxT K) (tVar 2) (tC (.int 1))) tNil)) (tC (.int 4000)))) (tTest (tOp (rI0 fun i j => .bl (decide (j < i))) (tCB (fun xs H Q => ∃ z, xs = [V.str z] ∧ z.length ≤ sizeLine ∧ Q (.int z.length) H) (tCons (tOp (rIxT K) (tVar 2) (tC (.int 2))) tNil)) (tC (.int 4000)))))
              (start N__law_is_due [.ref p, .ref q, v]) H2 (decide ((4000 : Int) < b.length) || decide ((4000 : Int) < c.length)) :=
            gt_or (gt_test (K := K) (gd_gt (gd_lenStr (z := tx b) (v1 rfl s12) (by rw [tx_len]; omega)) gd_i)) fun _ => gt_test (K := K) (gd_gt (gd_lenStr (z := tx c) (v2 rfl s12) (by rw [tx_len]; omega)) gd_i)
          by_cases hc3 : b.length ≤ 4000 ∧ c.length ≤ 4000
          · refine rq_not (GetsT.is t3 (by rw [decide_eq_false (by omega), decide_eq_false (by omega)]; rfl)) fun H3 s3 => ?_
            have s13 := s12.trans s3
            have RL3 := RL.sm0 s13
            have okB := L.ok
            have hBl : B.ls = A.ls := L.ls_
            have l1 := run_lt okB (w := b) (by rw [hBl]; exact hob) okB.n1
            have l2 := run_lt okB (w := c) (by rw [hBl]; exact hoc) okB.n1
            refine rq_par (K := K) (ga_cons (gd_readl (s := 0) (l := b) okB (gv_var rfl) RL3 okB.n1 gd_i (v1 rfl s13) (by rw [hBl]; exact hob)) (ga_cons (gd_readl (s := 0) (l := c) okB (gv_var rfl) RL3 okB.n1 gd_i (v2 rfl s13) (by rw [hBl]; exact hoc)) ga_nil)) fun v6 v7 H7 s7 q1 q2 => ?_
            cases dp_int q1
            cases dp_int q2
            have RL7 := RL3.sm0 s7
            have s17 := s13.trans s7
            rw [edue, decide_eq_true hc3.1, decide_eq_true hc3.2] at k
            refine r_ret (Gets.is (gd_andV (K := K) (a := !decide ((B.run 0 b : Int) = (B.run 0 c : Int))) (b := decide ((B.mv c0 (B.run 0 b) : Int) = (B.mv c0 (B.run 0 c) : Int))) (gd_op (gd_vi rfl) (gd_vi rfl) rd_neI) fun _ => gd_op (gd_lmv (K := K) (c := c0) (i := B.run 0 b) okB (gv_var rfl) RL7 (v0 rfl s17) (by rw [hBl]; exact hc0) (gd_vi rfl) l1) (gd_lmv (K := K) (c := c0) (i := B.run 0 c) okB (gv_var rfl) RL7 (v0 rfl s17) (by rw [hBl]; exact hc0) (gd_vi rfl) l2) rd_eqI) ?_) fun v H8 s8 p8 => k v H8 (s17.trans s8) p8
            unfold isM
            show PyData.bool _ = PyData.bool (true && true && _)
            rw [Bool.true_and, Bool.true_and]
            congr 2
            · rw [← decide_not]
              exact decide_eq_decide.mpr (not_congr Int.ofNat_inj)
            · exact decide_eq_decide.mpr Int.ofNat_inj
          · refine rq_if (b := true) (GetsT.is t3 ?_) (fun _ H3 s3 => fin (s12.trans s3) ?_ rfl) (fun h => by cases h)
            · by_cases hb4 : b.length ≤ 4000
              · have : ¬ c.length ≤ 4000 := fun h => hc3 ⟨hb4, h⟩
                rw [decide_eq_true (show (4000 : Int) < c.length by omega), Bool.or_true]
              · rw [decide_eq_true (show (4000 : Int) < b.length by omega), Bool.true_or]
            · rw [edue]
              by_cases hb4 : b.length ≤ 4000
              · have : ¬ c.length ≤ 4000 := fun h => hc3 ⟨hb4, h⟩
                rw [decide_eq_false this]; simp
              · rw [decide_eq_false hb4]; rfl
        · refine rq_if (b := true) (GetsT.is t2 ?_) (fun _ H2 s2 => fin (s1.trans s2) ?_ rfl) (fun h => by cases h)
          · by_cases hal : a.length = 1
            · have hne : ¬ ∀ z ∈ a ++ b ++ c, z ∈ A.ls := fun h => hc2 ⟨hal, h⟩
              rw [odd_nil, decide_eq_false hne]; simp
            · rw [decide_eq_false (show ¬ (a.length : Int) = 1 by omega)]; rfl
          · match a, hc2 with
            | [], _ => rfl
            | _ :: _ :: _, _ => rfl
            | [c0], hc2 =>
              have hne : ¬ ∀ z ∈ [c0] ++ b ++ c, z ∈ A.ls := fun h => hc2 ⟨rfl, h⟩
              cases e : due A B (some ([c0], b, c)) with
              | false => rfl
              | true =>
                have e' : (decide (c0 ∈ A.ls) && (inText A.ls (.str (tx b)) && inText A.ls (.str (tx c)) && isM B c0 b c)) = true := e
                rw [Bool.and_eq_true, Bool.and_eq_true, Bool.and_eq_true] at e'
                obtain ⟨e1, ⟨e2, e3⟩, _⟩ := e'
                have o1 := of_decide_eq_true e1
                have o2 := inText_over e2
                have o3 := inText_over e3
                exfalso
                refine hne fun z hz => ?_
                simp only [List.mem_append, List.mem_singleton] at hz
                rcases hz with (rfl | hz) | hz
                · exact o1
                · exact o2 z hz
                · exact o3 z hz
      · obtain ⟨i, hi, rfl⟩ := List.mem_map.mp hy
        have hi' := List.mem_range.mp (List.mem_filter.mp hi).1
        simp only [List.mem_singleton] at hz
        rw [hz, getD_of hi']
        exact hcd _ (List.getElem_mem _)
end
end K29
namespace K29
open PySem PySem.Spec PyProof.Rows L2
/-! t[::-1] of a tuple -/
theorem fmap_congr {α β : Type} {f g : α → Option β} : ∀ {l : List α}, (∀ x ∈ l, f x = g x) → l.filterMap f = l.filterMap g
  | [], _ => rfl
  | x :: l, h => by
    rw [List.filterMap_cons, List.filterMap_cons, h x List.mem_cons_self, fmap_congr fun y hy => h y (List.mem_cons_of_mem _ hy)]
theorem pick_rev (xs : Array Value) : ((List.range xs.size).filterMap fun (k : Nat) => xs[((xs.size : Int) - 1 + (k : Int) * (-1)).toNat]?).toArray = xs.toList.reverse.toArray := by
  congr 1
  apply List.ext_getElem?
  intro i
  by_cases hi : i < xs.size
  · have e : ((List.range xs.size).filterMap fun (k : Nat) => xs[((xs.size : Int) - 1 + (k : Int) * (-1)).toNat]?) = (List.range xs.size).map fun (k : Nat) => xs.toList.getD (xs.size - 1 - k) .none := by
      rw [← List.filterMap_eq_map]
      refine fmap_congr fun k hk => ?_
      have hk' := List.mem_range.mp hk
      have e1 : ((xs.size : Int) - 1 + (k : Int) * (-1)).toNat = xs.size - 1 - k := by omega
      rw [e1, Function.comp, List.getD_eq_getElem?_getD, Array.getElem?_toList, Array.getElem?_eq_getElem (show xs.size - 1 - k < xs.size by omega)]
      try rfl
    rw [e, List.getElem?_map, List.getElem?_range hi, List.getElem?_reverse (by rw [Array.length_toList]; exact hi), Array.length_toList, List.getElem?_eq_getElem (show xs.size - 1 - i < xs.toList.length by rw [Array.length_toList]; omega)]
    show some (xs.toList.getD _ _) = _
    rw [List.getD_eq_getElem?_getD, List.getElem?_eq_getElem (show xs.size - 1 - i < xs.toList.length by rw [Array.length_toList]; omega)]
    rfl
  · have h1 : ((List.range xs.size).filterMap fun (k : Nat) => xs[((xs.size : Int) - 1 + (k : Int) * (-1)).toNat]?).length ≤ xs.size := Nat.le_trans (List.length_filterMap_le ..) (by rw [List.length_range]; exact Nat.le_refl _)
    rw [List.getElem?_eq_none (by omega), List.getElem?_eq_none (by rw [List.length_reverse, Array.length_toList]; omega)]
section
variable {prog : Program} {w : World} {A : Around} {E : Value → Shared → Prop} {s : Shared}
theorem slicePartNeg {u : Tok} {v : Value} {Q : Option Int → Shared → Prop} (p : IsPart v (some (-1))) (h : Q (some (-1)) s) : wpAny (model prog w) A (Builtin.Slice.slicePartIndex v) Q E s := HT.slicePart_ p h
theorem sliceApplied_rev {sl : Addr} {vl vu vs : Value} {n : Nat} {Q : Int × Int × Nat → Shared → Prop} (hs : s.heap.IsSliceOf sl vl vu vs) (pl : IsPart vl none) (pu : IsPart vu none) (ps : IsPart vs (some (-1))) (hn : 1 ≤ n)
    (h : Q ((n : Int) - 1, -1, n) s) : wpAny (model prog w) A (Builtin.Slice.sliceApplied (.ref sl) (pure (n : Int))) Q E s := by
  obtain ⟨os, hos, hcs, hds⟩ := id hs
  unfold Builtin.Slice.sliceApplied Builtin.Slice.sliceFields
  refine wpAny_bind (wpAny_bind (wpAny_field hos hds (x := vl) rfl (wpAny_bind (wpAny_field hos hds (x := vu) rfl (wpAny_bind (wpAny_field hos hds (x := vs) rfl (wpAny_pure ?_)))))))
  refine wpAny_bind (HT.slicePart_ ps ?_)
  show wpAny _ _ (if ((-1 : Int) == 0) = true then _ else _) _ _ s
  rw [if_neg (by decide)]
  refine wpAny_bind (HT.slicePart_ pl (wpAny_bind (HT.slicePart_ pu (wpAny_bind (wpAny_pure ?_)))))
  have e : Builtin.Slice.sliceAdjust none none (-1) (n : Int) = ((n : Int) - 1, -1) := rfl
  show wpAny _ _ (match Builtin.Slice.sliceAdjust none none (-1) (n : Int) with | (lo, hi) => pure (lo, (-1 : Int), Builtin.Slice.slicePlaces lo hi (-1))) _ _ s
  rw [e]
  show wpAny _ _ (pure ((n : Int) - 1, (-1 : Int), Builtin.Slice.slicePlaces ((n : Int) - 1) (-1) (-1))) _ _ s
  have e2 : Builtin.Slice.slicePlaces ((n : Int) - 1) (-1) (-1) = n := by
    unfold Builtin.Slice.slicePlaces
    have h1 : ¬ (-1 : Int) > 0 := by omega
    have h2 : (n : Int) - 1 > -1 := by omega
    simp only [h1, if_false, h2, if_true]
    rw [show (- -1 : Int) = 1 by decide, Int.ediv_one]
    omega
  rw [e2]
  exact wpAny_pure h
theorem getItem_tuple_rev {t sl : Addr} {items : Array Value} {vl vu vs : Value} {Q : Value → Shared → Prop} (ht : IsTup s.heap t items) (hs : s.heap.IsSliceOf sl vl vu vs) (pl : IsPart vl none) (pu : IsPart vu none) (ps : IsPart vs (some (-1))) (hn : 1 ≤ items.size)
    (h : Q (.ref s.heap.objs.size) { s with heap := s.heap.push { cls := .type "tuple", data := .seq items.toList.reverse.toArray } })
    (hsz : items.size ≤ sizeLine) : wpAny (model prog w) A (getItem (.ref t) (.ref sl)) Q E s := by
  have htake : sizeOk (.seq items.toList.reverse.toArray) := by
    show items.toList.reverse.toArray.size ≤ sizeLine
    rw [List.size_toArray, List.length_reverse, Array.length_toList]
    exact hsz
  obtain ⟨os, hos, hcs, hds⟩ := id hs
  have hTs : s.TypeIs (.ref sl) "slice" := ⟨os, hos, hcs⟩
  unfold getItem
  try with_reducible refine wpAny_holding ?_
  first | refine wpAny_bind (wpAny_pure ?_) | skip
  refine wpAny_bind (wpAny_sequenceKey ht.typeIs (by decide) ?_)
  refine wpAny_bind (wpAny_callSpecial?_slot (name := Str.ofString "__getitem__") ht.typeIs PyProof.Rows.slot_tuple_getitem
    (wpAny_call_entry PyProof.Rows.slot_tuple_getitem ht.typeIs PyProof.Rows.entry_tuple_getitem ?_ (PyProof.Rows.args_tuple_getitem _ _)))
  show wpAny _ _ (Builtin.Tuple.tupleItemsOf (.ref t) >>= _) _ _ s
  refine wpAny_bind (tupleItemsOf_ ht ?_)
  refine wpAny_bind (wpAny_typeOf hTs ?_)
  rw [if_pos (by decide)]
  refine wpAny_bind (sliceApplied_rev hs pl pu ps hn ?_)
  show wpAny _ _ (if (((items.size : Int) - 1) == 0 && (-1 : Int) == 1 && items.size == items.size) = true then _ else _) _ _ s
  rw [if_neg (by simp), pick_rev]
  first
    | exact wpAny_bind (m := Builtin.Tuple.tupleExact _) (wpAny_newObj_type (wpAny_pure ⟨_, rfl, wpAny_pure h⟩) htake)
    | exact wpAny_bind (m := Builtin.Tuple.tupleExact _) (wpAny_newObj_type (wpAny_bind (wpAny_pure (wpAny_pure ⟨_, rfl, wpAny_pure h⟩))) htake)
    | exact wpAny_bind (wpAny_bind (m := Builtin.Tuple.tupleExact _) (wpAny_newObj_type (wpAny_pure (wpAny_pure ⟨_, rfl, wpAny_pure h⟩)) htake))
    | exact wpAny_bind (wpAny_bind (m := Builtin.Tuple.tupleExact _) (wpAny_newObj_type (wpAny_pure ⟨_, rfl, wpAny_pure h⟩) htake))
end
section
variable {X : Cx}
def tRevT (K : PySem.W.Frag) (te : TE) : TE := fun σ H Q => te σ H fun x H1 => ∃ a xs, x = .ref a ∧ SqT K H1 a xs ∧ 1 ≤ xs.length ∧ ∀ p, H1 p = none → Q (.ref p) (upd H1 p (.tup xs.reverse))
theorem pe_revT {e : Expr} {te : TE} {k : Nat} {p1 p2 p3 pos : Pos} (he : PE X e te) : PE X (.Subscript e (.Slice none none (some (.UnaryOp .USub (.Constant (.int 1) k p1) p2)) p3) pos) (tRevT X.K te) := by
  refine ⟨fun pins s σ H Q I h => ?_⟩
  refine Subscript_ (thn (he.run pins s σ H _ I h) fun v s1 ⟨x, H1, I1, r1, q1⟩ => ?_)
  obtain ⟨a, xs, ex, hx, hn, q⟩ := q1
  subst ex
  cases r1
  have hst : PO X (some (.UnaryOp .USub (.Constant (.int 1) k p1) p2)) (tPart (tUn (rU fun i => .int (-i)) (tC (.int 1)))) := po_some (pe_un un_neg pe_int)
  refine wpAny_Slice (thn (po_none.run pins s1 σ H1 (fun o H2 => o = none ∧ H2 = H1) I1 ⟨rfl, rfl⟩) fun vl s2 ⟨l, H2, I2, pl, el, e2⟩ => ?_)
  subst el e2
  refine thn (po_none.run pins s2 σ H2 (fun o H3 => o = none ∧ H3 = H2) I2 ⟨rfl, rfl⟩) fun vu s3 ⟨u, H3, I3, pu, eu, e3⟩ => ?_
  subst eu e3
  refine thn (hst.run pins s3 σ H3 (fun o H4 => o = some (-1) ∧ H4 = H3) I3 ⟨1, rfl, -1, rfl, rfl, rfl⟩) fun vs s4 ⟨o, H4, I4, ps, eo, e4⟩ => ?_
  subst eo e4
  have I5 : Inv X pins σ H4 { s4 with heap := s4.heap.push { cls := .type "slice", data := .fields #[vl, vu, vs] } } := I4.kept (t' := s4.toks) fun b ob q => Heap.get?_push_of_some _ q
  obtain ⟨its, r, ht, hz⟩ := I5.tuple hx
  have hlen := r.length
  show wpAny (model X.prog X.w) X.A (subscriptTail e (.Slice none none (some (.UnaryOp .USub (.Constant (.int 1) k p1) p2)) p3) (.ref a) (.ref s4.heap.objs.size)) (EP X pins σ Q) X.xe { s4 with heap := s4.heap.push { cls := .type "slice", data := .fields #[vl, vu, vs] } }
  refine tail_any (ops := [.ref a, .ref s4.heap.objs.size]) ht.typeIs (PyProof.Rows.slot_tuple_getitem.lookup) ?_ (by with_unfolding_all rfl)
  refine getItem_tuple_rev ht (Heap.IsSliceOf.new _ vl vu vs) pl pu ps (by rw [List.size_toArray]; omega) ?_ (by rw [List.size_toArray]; omega)
  refine ⟨.ref _, _, I5.laid (t' := s4.toks) (o := .tup xs.reverse) (fun b ob q => Heap.get?_push_of_some _ q) (Nat.le_refl _) ?_, rfl, q _ (I5.hok.fresh (Nat.le_refl _))⟩
  exact ⟨by rw [List.length_reverse]; omega, _, r.reverse, IsTup.new _ _⟩
theorem revT_ (K : PySem.W.Frag) {e : Expr} {te : TE} {k : Nat} {p1 p2 p3 pos : Pos} (he : PE X e te) (hK : X.K = K := by rfl) : PE X (.Subscript e (.Slice none none (some (.UnaryOp .USub (.Constant (.int 1) k p1) p2)) p3) pos) (tRevT K te) := hK ▸ pe_revT he
end
end K29
namespace K29
open PySem PySem.Spec PyProof.Rows L2
theorem dps_rev {K : PySem.W.Frag} {H : Hp} : ∀ {vs : List V} {ds : List PyData}, DpAll K H vs ds → DpAll K H vs.reverse ds.reverse
  | _, _, .nil => .nil
  | _, _, .cons h1 h2 => by
    rw [List.reverse_cons, List.reverse_cons]
    exact dps_append (dps_rev h2) (.cons h1 .nil)
theorem kb_lt' : kitB "list" "tuple" = some false := by decide +kernel
theorem kb_it' : kitB "int" "tuple" = some false := by decide +kernel
theorem kb_nt' : kitB "NoneType" "tuple" = some false := by decide +kernel
/-! values that are near a merge; the cup c may change -/
abbrev T3 := Option (List Nat × List Nat × List Nat)
def cok (x : T3) : Prop := ∀ a b c, x = some (a, b, c) → ∀ z ∈ a ++ b ++ c, z < 1000
inductive NV (K : PySem.W.Frag) (c : Addr) (H : Hp) (v : V) : Prop
  | data (d : PyData) : Dp K H v d → noL d = true → (∀ H', Dp K H' v d → ∃ x, MV K H' v x ∧ cok x) → NV K c H v
  | lst (a : Addr) (xs : List V) (ds : List PyData) : v = .ref a → a ≠ c → H a = some (.lst xs) → DpAll K H xs ds → noLs ds = true → NV K c H v
  | dict (d : Addr) (kvs : List (Key × V)) : v = .ref d → H d = some (.dK kvs) → NV K c H v
theorem cok_none : cok none := fun _ _ _ e => by cases e
theorem NV.sm {K : PySem.W.Frag} {c : Addr} {H H' : Hp} {v : V} (h : NV K c H v) (s : Sm [] H H') : NV K c H' v := by
  cases h with
  | data d h1 h2 h3 => exact .data d (dp_sm0 s h1) h2 h3
  | lst a xs ds e h1 h2 h3 h4 => exact .lst a xs ds e h1 (s _ _ (by simp) h2) (dps_sm0 s h3) h4
  | dict d kvs e h1 => exact .dict d kvs e (s _ _ (by simp) h1)
theorem NV.mv {K : PySem.W.Frag} {c : Addr} {H H' : Hp} {v : V} (h : NV K c H v) (s : Sm [c] H H') (w : Wm [c] H) : ∃ x, MV K H' v x ∧ cok x := by
  cases h with
  | data d h1 h2 h3 => exact h3 H' (dp_sm s w (.inr h2) h1)
  | lst a xs ds e h1 h2 h3 h4 =>
    subst e
    exact ⟨none, .data (.lst (SqL.of (s _ _ (by simpa using h1) h2)) (dps_sm s w (.inr h4) h3)) (show "list" ≠ "tuple" by decide) kb_lt', cok_none⟩
  | dict d kvs e h1 =>
    subst e
    exact ⟨none, .dict (s.at w h1 fun _ e => by cases e), cok_none⟩
abbrev NVp (K : PySem.W.Frag) (c : Addr) : V → Hp → Prop := fun v H' => NV K c H' v
abbrev AllNV (K : PySem.W.Frag) (c : Addr) (n : Nat) : List V → Hp → Prop := fun vs H' => vs.length = n ∧ ∀ v ∈ vs, NV K c H' v
structure SG (K : PySem.W.Frag) (te : TE) (σ : L2.St) (H : Hp) (n : Nat) (a : List Nat) : Prop where
  g : Gd K [] te σ H (.str (tx a))
  l : a.length ≤ n
  c : ∀ z ∈ a, z < 1000
section
variable {K : PySem.W.Frag} {c : Addr} {σ : L2.St} {H : Hp} {te t0 t1 t2 ta tb : TE} {t : TA} {n k : Nat} {a b d : List Nat}
theorem SG.sm {H' : Hp} (h : SG K te σ H n a) (s : Sm [] H H') : SG K te σ H' n a := ⟨fun H1 s1 w1 Q q => h.g H1 (s.trans s1) w1 Q q, h.l, h.c⟩
theorem sg_cat (h1 : SG K ta σ H n a) (h2 : SG K tb σ H k b) (hl : n + k ≤ 100000) : SG K (tOp (fun x y H Q => ∃ i j, x = .str i ∧ y = .str j ∧ i.length + j.length ≤ sizeLine ∧ Q (.str (i ++ j)) H) ta tb) σ H (n + k) (a ++ b) :=
  ⟨gd_cat h1.g h2.g (by have := h1.l; have := h2.l; omega), by rw [List.length_append]; have := h1.l; have := h2.l; omega, fun z hz => by
    rcases List.mem_append.mp hz with h | h
    · exact h1.c z h
    · exact h2.c z h⟩
theorem sg_nil : SG K (tC (.str "")) σ H 1 [] := ⟨gd_s, by simp, fun z hz => by simp at hz⟩
theorem sg_A : SG K (tC (.str "A")) σ H 1 [65] := ⟨gd_s, by simp, fun z hz => by simp at hz; omega⟩
theorem sg_Z : SG K (tC (.str "Z")) σ H 1 [90] := ⟨gd_s, by simp, fun z hz => by simp at hz; omega⟩
theorem sg_up (h : SG K ta σ H n a) (hn : n ≤ 5000) (ha : ∀ z ∈ a, z < 128) : SG K (tM0 (fun x xs H Q => ∃ a, x = .str a ∧ xs = [] ∧ a.length ≤ 5592405 ∧ Q (.str (Txt.upper a)) H) ta) σ H n (a.map PyProof.Rows.up1) :=
  ⟨fun H1 s1 w1 Q q => h.g H1 s1 w1 _ fun v H2 s2 w2 p => by
    cases dp_str p
    have hl := h.l
    refine ⟨⟨_, rfl⟩, tx a, rfl, rfl, by rw [tx_len]; omega, ?_⟩
    rw [show Txt.upper (tx a) = tx (a.map PyProof.Rows.up1) from SX.upper_S (List.all_eq_true.mpr fun z hz => decide_eq_true (ha z hz))]
    exact q _ H2 s2 w2 (.str _), by rw [List.length_map]; exact h.l, fun z hz => by
    obtain ⟨y, hy, rfl⟩ := List.mem_map.mp hz
    have := ha y hy
    unfold PyProof.Rows.up1
    split <;> omega⟩
theorem nv_three (h0 : SG K t0 σ H n a) {n1 n2 : Nat} (h1 : SG K t1 σ H n1 b) (h2 : SG K t2 σ H n2 d) (hn : n ≤ 10000) (hn1 : n1 ≤ 10000) (hn2 : n2 ≤ 10000) : Gets [] (tTup (tCons t0 (tCons t1 (tCons t2 tNil)))) σ H (NVp K c) :=
  (gd_tup (ga_cons h0.g (ga_cons h1.g (ga_cons h2.g ga_nil))) (show 3 ≤ 100000 by omega)).imp fun v H' _ _ p => .data _ p rfl fun H2 p2 => ⟨_, .three p2 (Nat.le_trans h0.l hn) (Nat.le_trans h1.l hn1) (Nat.le_trans h2.l hn2), fun a' b' c' e z hz => by
    cases e
    rcases List.mem_append.mp hz with h | h
    · rcases List.mem_append.mp h with h | h
      · exact h0.c z h
      · exact h1.c z h
    · exact h2.c z h⟩
theorem nv_nots (h0 : SG K t0 σ H n a) {n1 : Nat} (h1 : SG K t1 σ H n1 b) (hn : n ≤ 10000) (hn1 : n1 ≤ 10000) : Gets [] (tTup (tCons t0 (tCons t1 (tCons (tC .non) tNil)))) σ H (NVp K c) :=
  (gd_tup (ga_cons h0.g (ga_cons h1.g (ga_cons (gd_of gv_c fun _ _ _ => .non) ga_nil))) (show 3 ≤ 100000 by omega)).imp fun v H' _ _ p => .data _ p rfl fun H2 p2 => ⟨_, .nots p2 (Nat.le_trans h0.l hn) (Nat.le_trans h1.l hn1), cok_none⟩
theorem nv_tup {ds : List PyData} (h : Ga K [] t σ H ds) (hn : noLs ds = true) (hl : ds.length ≤ 10) (h3 : ds.length ≠ 3) : Gets [] (tTup t) σ H (NVp K c) :=
  (gd_tup h (by omega)).imp fun v H' _ _ p => .data _ p hn fun H2 p2 => ⟨_, .tup p2 hl h3, cok_none⟩
theorem nv_tupG {ds : List PyData} (h : Gd K [] te σ H (.tuple ds)) (hn : noLs ds = true) (hl : ds.length ≤ 10) (h3 : ds.length ≠ 3) : Gets [] te σ H (NVp K c) :=
  h.imp fun v H' _ _ p => .data _ p hn fun H2 p2 => ⟨_, .tup p2 hl h3, cok_none⟩
theorem nv_none : Gets [] (tC .non) σ H (NVp K c) := (gv_c (m := [])).imp fun v H' _ _ p => by
  subst p
  exact .data .none .non rfl fun H2 p2 => ⟨_, .data p2 (show "NoneType" ≠ "tuple" by decide) kb_nt', cok_none⟩
theorem nv_int {i : Int} : Gets [] (tC (.int i)) σ H (NVp K c) := (gv_c (m := [])).imp fun v H' _ _ p => by
  subst p
  exact .data (.int i) (.int i) rfl fun H2 p2 => ⟨_, .data p2 (show "int" ≠ "tuple" by decide) kb_it', cok_none⟩
theorem nv_dict : Gets [] tDNewK σ H (NVp K c) := fun H1 s1 w1 Q q p hp => q _ _ (Sm.new hp) Wm.nil (.dict p [] rfl upd_same)
theorem ne_cup {H1 : Hp} {p : Addr} (hc : IsCup H c) (s : Sm [] H H1) (hp : H1 p = none) : p ≠ c := fun e => by
  subst e
  obtain ⟨i, j, k, e⟩ := hc
  rw [s _ _ (by simp) e] at hp
  cases hp
theorem nv_lst {ds : List PyData} (hc : IsCup H c) (h : Ga K [] t σ H ds) (hn : noLs ds = true) (hl : ds.length ≤ 10) : Gets [] (tLst t) σ H (NVp K c) := fun H1 s1 w1 Q q =>
  h H1 s1 w1 _ fun xs H2 s2 w2 p => ⟨Nat.le_trans (by rw [dps_len p]; exact hl) (by decide), fun a ha => q _ _ (s2.trans (Sm.new ha)) Wm.nil (.lst a xs ds rfl (ne_cup hc (s1.trans s2) ha) upd_same (dps_sm0 (Sm.new ha) p) hn)⟩
theorem nv_listOf {ds : List PyData} (hc : IsCup H c) (h : Gd K [] te σ H (.tuple ds)) (hn : noLs ds = true) : Gets [] (tCB (rLstOf K) (tCons te tNil)) σ H (NVp K c) := fun H1 s1 w1 Q q =>
  h H1 s1 w1 _ fun x H2 s2 w2 p => by
    obtain ⟨a, xs, rfl, h1, h2⟩ := dp_tup p
    exact ⟨a, xs, rfl, .inr h1, fun l hl => q _ _ (s2.trans (Sm.new hl)) Wm.nil (.lst l xs ds rfl (ne_cup hc (s1.trans s2) hl) upd_same (dps_sm0 (Sm.new hl) h2) hn)⟩
theorem nv_rev {ds : List PyData} {d' : List PyData} (h : Gd K [] te σ H (.tuple ds)) (h1 : 1 ≤ ds.length) (hr : ds.reverse = d') (hx : ∀ v H', Dp K H' v (.tuple d') → NV K c H' v) : Gets [] (tRevT K te) σ H (NVp K c) := fun H1 s1 w1 Q q =>
  h H1 s1 w1 _ fun x H2 s2 w2 p => by
    obtain ⟨a, xs, rfl, g1, g2⟩ := dp_tup p
    refine ⟨a, xs, rfl, g1, by rw [dps_len g2]; exact h1, fun l hl => q _ _ (s2.trans (Sm.new hl)) Wm.nil (hx _ _ ?_)⟩
    rw [← hr]
    exact .tup (SqT.of upd_same) (dps_sm0 (Sm.new hl) (dps_rev g2))
theorem nva_nil : GetsA [] tNil σ H (AllNV K c 0) := fun H1 s1 w1 Q q => q [] H1 (Sm.refl _ _) w1 ⟨rfl, by simp⟩
theorem nva_cons (h : Gets [] te σ H (NVp K c)) (ht : GetsA [] t σ H (AllNV K c n)) : GetsA [] (tCons te t) σ H (AllNV K c (n + 1)) :=
  (gA_cons h (fun v H1 H2 s _ p => p.sm s) ht).imp fun vs H' _ _ p => by
    obtain ⟨v, r, rfl, p1, p2, p3⟩ := p
    refine ⟨by rw [List.length_cons, p2], fun x hx => ?_⟩
    rcases List.mem_cons.mp hx with rfl | hx
    · exact p1
    · exact p3 x hx
abbrev LNV (K : PySem.W.Frag) (c : Addr) (n : Nat) : V → Hp → Prop := fun v H' => ∃ a xs, v = .ref a ∧ a ≠ c ∧ H' a = some (.lst xs) ∧ AllNV K c n xs H'
theorem nvl (hc : IsCup H c) (h : GetsA [] t σ H (AllNV K c n)) (hn : n ≤ 1000) : Gets [] (tLst t) σ H (LNV K c n) := fun H1 s1 w1 Q q =>
  h H1 s1 w1 _ fun xs H2 s2 w2 p => ⟨Nat.le_trans (by rw [p.1]; exact hn) (by decide), fun a ha => q _ _ (s2.trans (Sm.new ha)) Wm.nil ⟨a, xs, rfl, ne_cup hc (s1.trans s2) ha, upd_same, p.1, fun v hv => (p.2 v hv).sm (Sm.new ha)⟩⟩
theorem nvl_cat {i : Nat} {a : Addr} {xs : List V} (hc : IsCup H c) (hi : σ[i]? = some (some (.ref a))) (ha : H a = some (.lst xs)) (hx : AllNV K c n xs H) (h : GetsA [] t σ H (AllNV K c k)) (hn : n + k ≤ 1000) : Gets [] (tOp rCat (tVar i) (tLst t)) σ H (LNV K c (n + k)) := fun H1 s1 w1 Q q =>
  ⟨.ref a, hi, h H1 s1 w1 _ fun ys H2 s2 w2 p => ⟨Nat.le_trans (m := 1000) (by rw [p.1]; omega) (by decide), fun b hb => ⟨a, b, xs, ys, rfl, rfl, ((s1.trans s2).trans (Sm.new hb)) _ _ (by simp) ha, upd_same, Nat.le_trans (m := 1000) (by rw [hx.1, p.1]; exact hn) (by decide), fun l hl => by
    have sb : Sm [] H2 (upd H2 b (.lst ys)) := Sm.new hb
    refine q _ _ ((s2.trans sb).trans (Sm.new hl)) Wm.nil ⟨l, xs ++ ys, rfl, ne_cup hc ((s1.trans s2).trans sb) hl, upd_same, by rw [List.length_append, hx.1, p.1], fun v hv => ?_⟩
    rcases List.mem_append.mp hv with h | h
    · exact (hx.2 v h).sm (((s1.trans s2).trans sb).trans (Sm.new hl))
    · exact (p.2 v h).sm (sb.trans (Sm.new hl))⟩⟩⟩
end
end K29
namespace K29
open PySem PySem.Spec PyProof.Rows L2
inductive DueW (K : PySem.W.Frag) (H : Hp) (A : Aut) : V → Prop
  | non : DueW K H A .non
  | due {v : V} {a : Nat} {b d : List Nat} : Dp K H v (.tuple [.str (tx [a]), .str (tx b), .str (tx d)]) → a ∈ A.ls → Over A.ls b → Over A.ls d → b.length ≤ 1000 → d.length ≤ 1000 → DueW K H A v
theorem DueW.smC {K : PySem.W.Frag} {H H' : Hp} {A : Aut} {v : V} {m : List Addr} (h : DueW K H A v) (s : Sm m H H') (w : Wm m H) : DueW K H' A v := by
  cases h with
  | non => exact .non
  | due h1 h2 h3 h4 h5 h6 => exact .due (dp_sm s w (.inr rfl) h1) h2 h3 h4 h5 h6
section
variable {P : Program} {w : World} {K : PySem.W.Frag} {mg : Str → Option Value} {base : Heap} {f C : Addr} {fd : FuncData}
abbrev N__law_near : List Str := ["_law_cup_here", "_law_plain", "_law_due", "_law_signs_here", "_law_one", "_law_other", "_law_sign", "_law_odd"]
theorem sc__law_near : FnScope N__law_near ["_law_cup_here", "_law_plain", "_law_due"] (defScope s__law_near) := ⟨rfl, rfl, rfl, by decide +kernel, rfl, by decide +kernel, by decide +kernel⟩
def sp_near (K : PySem.W.Frag) : Sp := fun vs H Q _ => ∃ (c p : Addr) (du : V) (A : Aut) (dw ty : Addr), vs = [.ref c, .ref p, du] ∧ IsCup H c ∧ PlAt K H p A dw ty ∧ Lts A.ls ∧ DueW K H A du ∧
  ∀ v x H', MV K H' v x → cok x → Sm [c] H H' → IsCup H' c → Q v H'
theorem ok_near (F : Fun K "_law_near" "_law_near" s__law_near f fd) (T : Txt K mg C) (G_law_line : Ok1 P w K mg base "_law_line" ["_law_cup_here", "_law_signs_here", "_law_most"] 3 sp_line) (G_law_pick : Ok1 P w K mg base "_law_pick" ["_law_cup_here", "_law_items"] 2 (sp_pick K)) : FnOk P w K mg base CX0 4 f fd ["_law_cup_here", "_law_plain", "_law_due"] (sp_near K) := by
  refine F.ok sc__law_near (fun vs H Q E h => ?_) (fun cdv A outer s H vs Q E hr h => ?_)
  · obtain ⟨c, p, du, A, dw, ty, rfl, _⟩ := h
    rfl
  · obtain ⟨c, p, du, B, dw, ty, rfl, hc, R, L, hd, q⟩ := h
    have nd := sc__law_near.nd
    have hu := hu_of hr
    refine ⟨_, (pss_cons  (ps_set (i := 3) nd rfl (.inl rfl) (pe_dget hu (pv 1) pe_str (fun _ _ => rfl)))
  (pss_cons  (ps_par (i := 4) (j := 5) rfl nd rfl rfl (by decide) rfl rfl (pa_cons (pe_callP G_law_line hr (by rfl) (pa_cons (pv 0) (pa_cons (pv 3) (pa_cons pe_int pa_nil)))) (pa_cons (pe_callP G_law_line hr (by rfl) (pa_cons (pv 0) (pa_cons (pv 3) (pa_cons pe_int pa_nil)))) pa_nil)) (by rfl))
  (pss_cons  (ps_set (i := 6) nd rfl (.inl rfl) (pe_callP G_law_pick hr (by rfl) (pa_cons (pv 0) (pa_cons (pv 3) pa_nil))))
  (pss_cons  (ps_set (i := 7) nd rfl (.inl rfl) (pe_lst (pa_cons (pe_tup (pa_cons (pv 6) (pa_cons (pv 4) (pa_cons (pv 5) pa_nil)))) (pa_cons (pe_tup (pa_cons (pv 6) (pa_cons (pv 4) (pa_cons (pv 5) pa_nil)))) (pa_cons (pe_tup (pa_cons (pv 6) (pa_cons (pv 4) (pa_cons (pv 5) pa_nil)))) (pa_cons (pe_tup (pa_cons (pv 6) (pa_cons (pv 4) (pa_cons (pv 4) pa_nil)))) (pa_cons (pe_lst (pa_cons (pv 6) (pa_cons (pv 4) (pa_cons (pv 5) pa_nil)))) (pa_cons (pe_tup (pa_cons (pv 6) (pa_cons (pv 4) pa_nil))) (pa_cons pe_non (pa_cons (pe_tup pa_nil) (pa_cons pe_int (pa_cons (pe_tup (pa_cons (pv 4) (pa_cons (pv 5) (pa_cons (pv 6) pa_nil)))) pa_nil))))))))))))
  (pss_cons  (ps_set (i := 7) nd rfl (.inl rfl) (pe_op op_cat (pv 7) (pe_lst (pa_cons (pe_tup (pa_cons pe_str (pa_cons (pv 4) (pa_cons (pv 5) pa_nil)))) (pa_cons (pe_tup (pa_cons (pe_op op_add_str (pv 3) (pv 3)) (pa_cons (pv 4) (pa_cons (pv 5) pa_nil)))) (pa_cons (pe_tup (pa_cons pe_str (pa_cons (pv 4) (pa_cons (pv 5) pa_nil)))) (pa_cons (pe_tup (pa_cons (pv 6) (pa_cons (pv 4) (pa_cons pe_non pa_nil)))) (pa_cons (pe_tup (pa_cons (pv 6) (pa_cons (pv 4) (pa_cons (pe_op op_add_str (pe_upper (pv 5)) pe_str) pa_nil)))) (pa_cons (pe_tup (pa_cons (pv 6) (pa_cons (pv 4) (pa_cons (pv 5) (pa_cons pe_str pa_nil))))) (pa_cons pe_dnewK pa_nil))))))))))
  (pss_cons  (ps_if (pt_cmpR op_notN (pv 2) pe_non (nomark _)) 
    (pss_cons  (ps_set (i := 7) nd rfl (.inl rfl) (pe_op op_cat (pv 7) (pe_lst (pa_cons (pv 2) (pa_cons (pv 2) (pa_cons (pe_tup (pa_cons (pe_ix (ixT_ K) (pv 2) pe_int (fun _ _ => rfl)) (pa_cons (pe_ix (ixT_ K) (pv 2) pe_int (fun _ _ => rfl)) (pa_cons (pe_ix (ixT_ K) (pv 2) pe_int (fun _ _ => rfl)) pa_nil)))) (pa_cons (revT_ K (pv 2)) (pa_cons (pe_tup (pa_cons (pe_ix (ixT_ K) (pv 2) pe_int (fun _ _ => rfl)) (pa_cons (pe_ix (ixT_ K) (pv 2) pe_int (fun _ _ => rfl)) (pa_cons (pe_ix (ixT_ K) (pv 2) pe_int (fun _ _ => rfl)) pa_nil)))) (pa_cons (pe_tup (pa_cons (pe_ix (ixT_ K) (pv 2) pe_int (fun _ _ => rfl)) (pa_cons (pe_op op_add_str (pe_ix (ixT_ K) (pv 2) pe_int (fun _ _ => rfl)) (pv 4)) (pa_cons (pe_op op_add_str (pe_ix (ixT_ K) (pv 2) pe_int (fun _ _ => rfl)) (pv 4)) pa_nil)))) (pa_cons (pe_tup (pa_cons (pe_ix (ixT_ K) (pv 2) pe_int (fun _ _ => rfl)) (pa_cons (pe_op op_add_str (pe_ix (ixT_ K) (pv 2) pe_int (fun _ _ => rfl)) (pv 6)) (pa_cons (pe_ix (ixT_ K) (pv 2) pe_int (fun _ _ => rfl)) pa_nil)))) pa_nil))))))))))
    (pss_one  (ps_set (i := 7) nd rfl (.inl rfl) (pe_op op_cat (pv 7) (pe_lst (pa_cons (pe_tup (pa_cons (pv 6) (pa_cons (pe_ix (ixT_ K) (pv 2) pe_int (fun _ _ => rfl)) (pa_cons (pe_ix (ixT_ K) (pv 2) pe_int (fun _ _ => rfl)) pa_nil)))) (pa_cons (pe_callTy (lstOf_ K) (by rfl) T.list (by decide +kernel) (pa_cons (pv 2) pa_nil)) (pa_cons (pe_op (catA_ K) (pv 2) (pe_tup (pa_cons pe_str pa_nil))) pa_nil)))))))) pss_nil)
  (pss_one  (ps_ret (pe_callP G_law_pick hr (by rfl) (pa_cons (pv 0) (pa_cons (pv 7) pa_nil))))))))))), ?_⟩
    have hl1 := L.l1
    have hl3 := L.l3
    have hls : ∀ z ∈ B.ls, z < 128 := fun z hz => by have := L.cod z hz; omega
    refine rq_asg (gd_signs (K := K) (gv_var rfl) R Wm.nil) fun v1 H1 s1 p1 => ?_
    cases dp_str p1
    have hc1 := ((wm1 hc).same s1.same).c1
    refine rq_parG (PP := fun v1 v2 _ => ∃ o1 o2 : List Nat, v1 = .str (tx o1) ∧ v2 = .str (tx o2) ∧ (Over B.ls o1 ∧ o1.length ≤ 5) ∧ Over B.ls o2 ∧ o2.length ≤ 5) (GetsA.imp (gA_cons (gets_line (K := K) (n := 5) (gv_var rfl) (gd_vs rfl) gd_i L (by omega)) (fun _ _ _ _ _ h => h) (gA_cons (gets_line (K := K) (n := 5) (gv_var rfl) (gd_vs rfl) gd_i L (by omega)) (fun _ _ _ _ _ h => h) gA_nil)) fun vs H2 _ _ h => ?_) (wm1 hc1) fun v4 v5 H2 s2 w2 h => ?_
    · obtain ⟨_, _, rfl, ⟨o1, rfl, h1, h2⟩, _, _, rfl, ⟨o2, rfl, h3, h4⟩, rfl⟩ := h
      exact ⟨_, _, rfl, o1, o2, rfl, rfl, ⟨h1, h2⟩, h3, h4⟩
    obtain ⟨o1, o2, rfl, rfl, ⟨h11, h12⟩, h21, h22⟩ := h
    refine rq_asgC (gets_pickT (K := K) (l := B.ls) (gv_var rfl) (gd_vs rfl) hl1 (by omega)) w2.c1 fun v6 H3 s3 hc3 p3 => ?_
    obtain ⟨e0, he0, rfl⟩ := p3
    have s13 := s2.trans s3
    have s03 : Sm [c] H H3 := s1.weak.trans s13
    have hd3 := hd.smC s03 (wm1 hc)
    have cO : ∀ {o : List Nat}, Over B.ls o → ∀ z ∈ o, z < 1000 := fun h z hz => by have := hls z (h z hz); omega
    have gone : ∀ {σ : L2.St} {H' : Hp}, σ[4]? = some (some (.str (tx o1))) → SG K (tVar 4) σ H' 5 o1 := fun h => ⟨gd_vs h, h12, cO h11⟩
    have goth : ∀ {σ : L2.St} {H' : Hp}, σ[5]? = some (some (.str (tx o2))) → SG K (tVar 5) σ H' 5 o2 := fun h => ⟨gd_vs h, h22, cO h21⟩
    have gsgn : ∀ {σ : L2.St} {H' : Hp}, σ[6]? = some (some (.str (tx [e0]))) → SG K (tVar 6) σ H' 1 [e0] := fun h => ⟨gd_vs h, by simp, fun z hz => by simp at hz; subst hz; have := hls z he0; omega⟩
    have gsgs : ∀ {σ : L2.St} {H' : Hp}, σ[3]? = some (some (.str (tx B.ls))) → SG K (tVar 3) σ H' 3 B.ls := fun h => ⟨gd_vs h, hl3, fun z hz => by have := hls z hz; omega⟩
    have t1 : ∀ {σ : L2.St} {H' : Hp}, σ[6]? = some (some (.str (tx [e0]))) → σ[4]? = some (some (.str (tx o1))) → σ[5]? = some (some (.str (tx o2))) → Gets [] (tTup (tCons (tVar 6) (tCons (tVar 4) (tCons (tVar 5) tNil)))) σ H' (NVp K c) := fun h6 h4 h5 => nv_three (gsgn h6) (gone h4) (goth h5) (by omega) (by omega) (by omega)
    refine rq_asg (nvl (K := K) (n := 10) hc3 (nva_cons (t1 rfl rfl rfl) (nva_cons (t1 rfl rfl rfl) (nva_cons (t1 rfl rfl rfl) (nva_cons (nv_three (gsgn rfl) (gone rfl) (gone rfl) (by omega) (by omega) (by omega))
      (nva_cons (nv_lst hc3 (ga_cons (gsgn rfl).g (ga_cons (gone rfl).g (ga_cons (goth rfl).g ga_nil))) rfl (show 3 ≤ 10 by omega)) (nva_cons (nv_tup (ga_cons (gsgn rfl).g (ga_cons (gone rfl).g ga_nil)) rfl (show 2 ≤ 10 by omega) (show 2 ≠ 3 by omega)) (nva_cons nv_none (nva_cons (nv_tup (ds := []) ga_nil rfl (show 0 ≤ 10 by omega) (show 0 ≠ 3 by omega))
      (nva_cons nv_int (nva_cons (nv_three (gone rfl) (goth rfl) (gsgn rfl) (by omega) (by omega) (by omega)) nva_nil)))))))))) (by omega)) fun v7 H4 s4 p4 => ?_
    obtain ⟨a7, xs7, rfl, hne7, ha7, hx7⟩ := p4
    have hc4 := ((wm1 hc3).same s4.same).c1
    refine rq_asg (nvl_cat (K := K) (n := 10) (k := 7) hc4 rfl ha7 hx7 (nva_cons (nv_three sg_nil (gone rfl) (goth rfl) (by omega) (by omega) (by omega)) (nva_cons (nv_three (sg_cat (gsgs rfl) (gsgs rfl) (by omega)) (gone rfl) (goth rfl) (by omega) (by omega) (by omega)) (nva_cons (nv_three sg_Z (gone rfl) (goth rfl) (by omega) (by omega) (by omega))
      (nva_cons (nv_nots (gsgn rfl) (gone rfl) (by omega) (by omega)) (nva_cons (nv_three (gsgn rfl) (gone rfl) (sg_cat (sg_up (goth rfl) (by omega) fun z hz => hls z (h21 z hz)) sg_A (by omega)) (by omega) (by omega) (by omega)) (nva_cons (nv_tup (ga_cons (gsgn rfl).g (ga_cons (gone rfl).g (ga_cons (goth rfl).g (ga_cons (sg_nil (K := K)).g ga_nil)))) rfl (show 4 ≤ 10 by omega) (show 4 ≠ 3 by omega)) (nva_cons nv_dict nva_nil))))))) (by omega)) fun v8 H5 s5 p5 => ?_
    obtain ⟨a8, xs8, rfl, hne8, ha8, hx8⟩ := p5
    have s35 := s4.trans s5
    have s05 : Sm [c] H H5 := s03.trans s35.weak
    have hd5 := hd3.smC s35 Wm.nil
    have hc5 := ((wm1 hc4).same s5.same).c1
    have fin : ∀ {H6 : Hp} {D : Ends} {a : Addr} {xs : List V} {n : Nat} (w2 : V), Sm [c] H H6 → IsCup H6 c → a ≠ c → H6 a = some (.lst xs) → AllNV K c n xs H6 → 1 ≤ n → n ≤ 1000 → D.rt = Q → tRet (tCall (sp_pick K) [] E0 (tCons (tVar 0) (tCons (tVar 7) tNil))) D [some (.ref c), some (.ref p), some w2, some (.str (tx B.ls)), some (.str (tx o1)), some (.str (tx o2)), some (.str (tx [e0])), some (.ref a)] H6 := fun {H6 D a xs n} w2 s6 hc6 hne ha hx h1 h2 eD => by
      refine r_retC (P := fun v H' => ∃ x, MV K H' v x ∧ cok x) (fun H7 s7 w7 Q7 k => ⟨.ref c, rfl, .ref a, rfl, c, .ref a, rfl, w7.c1, .inl ⟨a, xs, rfl, hne, SqL.of (s7 _ _ (by simpa using hne) ha), by rw [hx.1]; exact h1, by rw [hx.1]; exact h2, fun i x H8 hi s8 hc8 => k _ H8 s8 (wm1 hc8) ?_⟩⟩) hc6 fun v H7 s7 hc7 p7 => ?_
      · exact (hx.2 x (List.mem_of_getElem? hi)).mv (s7.trans s8) (wm1 hc6)
      · rw [eD]
        obtain ⟨x, m1, m2⟩ := p7
        exact q v x H7 m1 m2 (s6.trans s7) hc7
    cases hd5 with
    | non =>
      refine rq_if (b := false) ?_ (fun h => by cases h) fun _ H6 s6 => ?_
      · exact fun H6 s6 w6 Q6 k => ⟨_, rfl, rfl, _, rfl, k H6 (Sm.refl _ _) w6⟩
      · exact fin _ (s05.trans s6.weak) ((wm1 hc5).same s6.same).c1 hne8 (s6 _ _ (by simp) ha8) ⟨hx8.1, fun v hv => (hx8.2 v hv).sm s6⟩ (by omega) (by omega) rfl
    | @due _ a b d hdu ha hb hdd hbl hdl =>
      have hca : ∀ z ∈ [a], z < 1000 := fun z hz => by simp at hz; subst hz; have := hls z ha; omega
      have g0 : ∀ {σ : L2.St} {H' : Hp}, σ[2]? = some (some du) → Sm [] H5 H' → SG K (tOp (rIxT K) (tVar 2) (tC (.int 0))) σ H' 1 [a] := fun h s => ⟨gd_ixT (n := 0) (gd_var h Wm.nil (dp_sm0 s hdu)) gd_i rfl, by simp, hca⟩
      have g1 : ∀ {σ : L2.St} {H' : Hp}, σ[2]? = some (some du) → Sm [] H5 H' → SG K (tOp (rIxT K) (tVar 2) (tC (.int 1))) σ H' 1000 b := fun h s => ⟨gd_ixT (n := 1) (gd_var h Wm.nil (dp_sm0 s hdu)) gd_i rfl, hbl, cO hb⟩
      have g2 : ∀ {σ : L2.St} {H' : Hp}, σ[2]? = some (some du) → Sm [] H5 H' → SG K (tOp (rIxT K) (tVar 2) (tC (.int 2))) σ H' 1000 d := fun h s => ⟨gd_ixT (n := 2) (gd_var h Wm.nil (dp_sm0 s hdu)) gd_i rfl, hdl, cO hdd⟩
      have mvd : ∀ {v : V} {H' : Hp} {a' b' c' : List Nat}, Dp K H' v (.tuple [.str (tx a'), .str (tx b'), .str (tx c')]) → a'.length ≤ 1000 → b'.length ≤ 1000 → c'.length ≤ 1000 → (∀ z ∈ a', z < 1000) → (∀ z ∈ b', z < 1000) → (∀ z ∈ c', z < 1000) → NV K c H' v := fun p l1 l2 l3 c1 c2 c3 => .data _ p rfl fun H2 p2 => ⟨_, .three p2 (by omega) (by omega) (by omega), fun a'' b'' c'' e z hz => by
        cases e
        rcases List.mem_append.mp hz with h | h
        · rcases List.mem_append.mp h with h | h
          · exact c1 z h
          · exact c2 z h
        · exact c3 z h⟩
      have gdu : ∀ {σ : L2.St} {H' : Hp}, σ[2]? = some (some du) → Sm [] H5 H' → Gets [] (tVar 2) σ H' (NVp K c) := fun h s => (gd_var h Wm.nil (dp_sm0 s hdu)).imp fun v H' _ _ p => mvd p (by simp) hbl hdl hca (cO hb) (cO hdd)
      refine rq_if (b := true) ?_ (fun _ H6 s6 => ?_) fun h => by cases h
      · obtain ⟨l, xs, rfl, _, _⟩ := dp_tup hdu
        exact fun H6 s6 w6 Q6 k => ⟨_, rfl, rfl, _, rfl, k H6 (Sm.refl _ _) w6⟩
      · have hc6 := ((wm1 hc5).same s6.same).c1
        refine rq_asg (nvl_cat (K := K) (n := 17) (k := 7) hc6 rfl (s6 _ _ (by simp) ha8) ⟨hx8.1, fun v hv => (hx8.2 v hv).sm s6⟩ (nva_cons (gdu rfl s6) (nva_cons (gdu rfl s6) (nva_cons (nv_three (g0 rfl s6) (g2 rfl s6) (g1 rfl s6) (by omega) (by omega) (by omega)) (nva_cons (nv_rev (gd_var rfl Wm.nil (dp_sm0 s6 hdu)) (show 1 ≤ 3 by omega) rfl fun v H' p => mvd p hdl hbl (by simp) (cO hdd) (cO hb) hca)
          (nva_cons (nv_three (g0 rfl s6) (g1 rfl s6) (g1 rfl s6) (by omega) (by omega) (by omega)) (nva_cons (nv_three (g0 rfl s6) (sg_cat (g1 rfl s6) (gone rfl) (by omega)) (sg_cat (g2 rfl s6) (gone rfl) (by omega)) (by omega) (by omega) (by omega)) (nva_cons (nv_three (g0 rfl s6) (sg_cat (g1 rfl s6) (gsgn rfl) (by omega)) (g2 rfl s6) (by omega) (by omega) (by omega)) nva_nil))))))) (by omega)) fun v9 H7 s7 p7 => ?_
        obtain ⟨a9, xs9, rfl, hne9, ha9, hx9⟩ := p7
        have s57 := s6.trans s7
        have hc7 := ((wm1 hc6).same s7.same).c1
        refine Gets.go (nvl_cat (K := K) (n := 24) (k := 3) hc7 rfl ha9 hx9 (nva_cons (nv_three (gsgn rfl) (g1 rfl s57) (g2 rfl s57) (by omega) (by omega) (by omega)) (nva_cons (nv_listOf hc7 (gd_var rfl Wm.nil (dp_sm0 s57 hdu)) rfl) (nva_cons (nv_tupG (gd_catT (gd_var rfl Wm.nil (dp_sm0 s57 hdu)) (gd_tup (ga_cons (sg_nil (K := K)).g ga_nil) (show 1 ≤ 100000 by omega)) (show 3 + 1 ≤ 10000 by omega)) rfl (show 4 ≤ 10 by omega) (show 4 ≠ 3 by omega)) nva_nil))) (by omega)) fun v10 H8 s8 p8 => ?_
        obtain ⟨a10, xs10, rfl, hne10, ha10, hx10⟩ := p8
        exact fin _ (s05.trans (s57.trans s8).weak) ((wm1 hc7).same s8.same).c1 hne10 ha10 hx10 (by omega) (by omega) rfl
end
end K29
/-! promises for a place where nothing is being shown: repr asks for it -/
namespace K29
open PySem PySem.Spec PyProof.Rows L2
/-- a def's promise, wherever no object is being shown -/
structure FnG (P : Program) (w : World) (K : PySem.W.Frag) (mg : Str → Option Value) (base : Heap) (k : Nat) (f : Addr) (fd : FuncData) (ps : List Str) (sp : Sp) : Prop where
  num : ∀ {vs H Q E}, sp vs H Q E → vs.length = ps.length
  go : ∀ {A : Around} {outer : List Env} {s : Shared} {H : Hp} {args : Args} {us : List Value} {vs : List V} {Q : VK} {E : XK}, A.guards = some [] → Room k A → Env0 P w K mg base A outer s H → BindsTo s fd args (ps.zip us) → Vals vs us → sp vs H Q E →
    codeAny (model P w) A (.call (.ref f) args) (CR CX0 outer P w H s Q E) s
section
variable {P : Program} {w : World} {K : PySem.W.Frag} {mg : Str → Option Value} {base : Heap}
theorem okG {x qual : Str} {st : Stmt} {f : Addr} {fd : FuncData} {N ps : List Str} {k : Nat} {sp : Sp} (F : Fun K x qual st f fd) (S : FnScope N ps (defScope st)) (len : ∀ vs H Q E, sp vs H Q E → vs.length = ps.length)
    (hbody : ∀ (cdv : Value) (A : Around) (outer : List Env) (s : Shared) (H : Hp) (vs : List V) (Q : VK) (E : XK), A.guards = some [] → Room k (A.deeper (envOfC qual (defScope st) s.heap.objs.size f cdv)) → sp vs H Q E →
      ∃ t, PSs (cxOf CX0 P w K mg base N qual (defScope st) f cdv A outer s H E).nox (defBody st) t ∧ t { nx := fun _ H' => Q .non H', rt := Q } (start N vs) H) : FnG P w K mg base (k + 1) f fd ps sp := by
  obtain ⟨oc, od, kV, doc, pm, an, cdv, ct, osl, rfl, lk, hcd⟩ := F.ex
  constructor
  case num => exact fun {vs H Q E} => len vs H Q E
  case go =>
    intro A outer s H args us vs Q E free room env0 binds vals want
    have kept : ∀ b o, base.get? b = some o → s.heap.get? b = some o := fun b o h => (env0.bs b o h).1
    have inK : K.In s.heap := env0.mod.kin.keeps kept
    obtain ⟨t, body, reading⟩ := hbody cdv A outer s H vs Q E free (room.deeper _) want
    apply codeAny_call_function room.depth (inK _ _ lk) rfl S.co S.gen rfl (PySem.W.codeRec_of inK hcd)
    apply binds
    refine wpAny_newFunctionEnv_cells S.kind ?par ?made
    case par =>
      rintro ⟨y, u⟩ hy
      refine (S.par y (List.of_mem_zip hy).1).imp id fun c => ⟨c, ?_⟩
      exact PySem.W.cellsFrom_some _ _ _ (Or.inl c)
    case made =>
      intro env same s1 grown
      cases same
      refine ⟨(env0.mod.nolimit.keeps kept).keeps grown.toInCall.keep, codeAny_func ?_⟩
      have first := inv_start (CX := CX0) (E := E) S room.hd env0 (len vs H Q E want) vals grown
      refine wpAny_mono (body.nox.run [] s1 (start N vs) H _ first reading) ?_ fun _ _ h => h
      rintro (_ | _ | _ | u) s' h
      · obtain ⟨_, H', J, q⟩ := h
        exact ⟨V.non, H', J.os, J.bare, J.base, J.hok, rfl, q⟩
      · exact (h.choose_spec.choose_spec.2).elim
      · exact (h.choose_spec.choose_spec.2).elim
      · obtain ⟨v, _, H', J, rv, q⟩ := h
        exact ⟨v, H', J.os, J.bare, J.base, J.hok, rv, q⟩
/-- a def whose promise asks for empty guards -/
def OkG (P : Program) (w : World) (K : PySem.W.Frag) (mg : Str → Option Value) (base : Heap) (x : Str) (ps : List Str) (k : Nat) (sp : Sp) : Prop :=
  ∃ (f : Addr) (fd : FuncData), FnG P w K mg base k f fd ps sp ∧ mg x = some (.ref f) ∧ PySem.W.keepIn K (.ref f) = true ∧ Binds K fd ps []
end
section
variable {X : Cx} {k : Nat} {ps : List Str} {sp : Sp} {x : Str} {p pos : Pos} {e : Expr} {es : List Expr} {t : TA}
theorem pe_callG (F : OkG X.prog X.w X.K X.mg X.base x ps k sp) (gd : X.A.guards = some []) (hr : Room k X.A) (hg : Gl X x) (ha : PA X (e :: es) t) (hdb : (x == ("__debug__" : Str)) = false := by decide)
    (he : starEach (e :: es) X.env = (false, eval e X.env) :: starEach es X.env := by rfl) (hpl : (backTo pos (starEach es X.env)).any (·.1) = false := by rfl) :
    PE X (.Call (.Name x p) (e :: es) [] pos) (tCall sp [] E0 t) := by
  obtain ⟨f, fd, G, hm, kp, bi⟩ := F
  constructor
  intro pins s σ H Q I h
  apply wpAny_Call_Name_kw
  refine ld_glob I hg hm (PySem.W.callWith_K (h₀ := X.base) I.ok.mod.kin kp (thn (ha.run pos pins s σ H _ I h) ?_) he hpl) hdb
  rintro us s1 ⟨vs, H1, I1, rv, q⟩
  rw [List.append_nil] at q
  have hb := bi s1 us I1.kIn (by rw [List.append_nil, ← rv.length]; exact G.num q)
  rw [List.append_nil] at hb
  refine ⟨I1.kIn, wpAny_call (codeAny_mono (G.go gd hr I1.env0 hb rv q) ?_)⟩
  rintro (er | (_ | _ | _ | u)) s' hq
  · exact hq.elim
  · exact hq.elim
  · exact hq.elim
  · exact hq.elim
  · exact I1.after hq
/-- repr of plain data -/
def rRepr (K : PySem.W.Frag) : List V → Hp → VK → Prop := fun xs H Q => (∃ b : Bool, xs = [.bl b] ∧ Q (.str (if b then "True" else "False")) H) ∨
  ∃ (a : Addr) (d : PyData), xs = [.ref a] ∧ Dp K H (.ref a) d ∧ d.showable = true ∧ d.hasDict = false ∧ d.depth < 100 ∧ d.shown.length ≤ sizeLine ∧ Q (.str d.shown) H
theorem reprG_ (K : PySem.W.Frag) (gd : X.A.guards = some []) (hu : X.A.units + 200 < cLine) (hK : X.K = K := by rfl) : CallR X (.builtin "repr") (rRepr K) := by
  subst hK
  intro pins s σ H xs us Q I r h
  rcases h with ⟨b, rfl, q⟩ | ⟨a, d, rfl, hd, h1, h2, h3, h4, q⟩
  · obtain ⟨u, rfl, rx⟩ := vals1 r
    cases rx
    exact PySem.P.repr_of_bool ⟨.str _, H, I.tok _, ⟨_, rfl⟩, q⟩
  · obtain ⟨u, rfl, rx⟩ := vals1 r
    obtain ⟨as, rd⟩ := Dp.reads I d _ u hd rx
    cases rx
    refine repr_of_reads' rd h1 (fun e => by rw [h2] at e; cases e) gd (by omega) (fun _ _ e => e) (fun h' u tk hk => ?_) h4
    exact ⟨.str _, H, I.kept hk, ⟨_, rfl⟩, q⟩
end
/-- the abstract heap of the law's call: the script alone, if the object is not the module's own -/
structure Scr (P : Program) (w : World) (K : PySem.W.Frag) (a : Addr) (ns : List Int) (h : Heap) (H : Hp) : Prop where
  ok : HOk P w H h
  only : ∀ b, H b = none ∨ b = a ∧ K.lookup a = none ∧ ∃ o xs, H b = some (.frz o (.lst xs))
  seq : SqL K H a (ns.map V.int)
theorem vals_of {ns : List Int} {vs : List Value} (h : IntsAre vs ns) : Vals (ns.map V.int) vs := by
  induction h with
  | nil => exact .nil
  | cons n t h ih => exact .cons ⟨t, rfl⟩ ih
theorem scr_is {P : Program} {w : World} {K : PySem.W.Frag} {a : Addr} {vs : List Value} {ns : List Int} {h : Heap} (KX : K.In h) (ha : h.get? a = some { cls := .type "list", data := .seq vs.toArray }) (hi : IntsAre vs ns) (hl : ns.length ≤ sizeLine) : ∃ H, Scr P w K a ns h H := by
  have rv := vals_of hi
  have hlen : vs.length = ns.length := by rw [← rv.length, List.length_map]
  cases own : K.lookup a with
  | some o =>
    have same := KX a o own
    rw [ha] at same
    cases same
    exact ⟨fun _ => none, fun _ _ z => (nomatch z), fun _ => .inl rfl, .inr ⟨_, vs.toArray, _, own, rfl, rfl, rfl, by rw [List.size_toArray, hlen]; exact hl, by simpa using rv⟩⟩
  | none =>
    let O : Obj := { cls := .type "list", data := .seq vs.toArray }
    have at_ : (fun b => if b = a then some (HO.frz O (.lst (ns.map V.int))) else none) a = some (HO.frz O (.lst (ns.map V.int))) := if_pos rfl
    refine ⟨fun b => if b = a then some (.frz O (.lst (ns.map V.int))) else none, ?ok, ?only, .inl (.inr ⟨O, at_⟩)⟩
    case ok =>
      intro b u
      dsimp only
      split
      · rename_i e
        rintro ⟨⟩
        rw [e]
        exact ⟨ha, by rw [List.length_map]; exact hl, vs, _, rv, ha⟩
      · exact fun z => nomatch z
    case only =>
      intro b
      split
      · rename_i e
        exact .inr ⟨e, own, O, _, rfl⟩
      · exact .inl rfl
theorem law_callG {P : Program} {w : World} {K : PySem.W.Frag} {mg mb : Str → Option Value} {k : Nat} {fa a : Addr} {fd : FuncData} {x : Str} {sp : Sp} {s₁ : Shared} {vs : List Value} {ns : List Int}
    (KX : K.In s₁.heap) (hns : s₁.heap.Ns mainGlobals mg) (hb : s₁.heap.Ns builtinsNs mb) (hbb : ∀ x : Str, x ≠ "__name__" → mb x = bootBuiltins x) (hlim : s₁.heap.NoLimit) (hg : s₁.gens = #[])
    (ha : s₁.heap.get? a = some { cls := .type "list", data := .seq vs.toArray }) (hi : IntsAre vs ns) (hl : ns.length ≤ sizeLine) (hr : Room k callerA)
    (F : ∀ base : Heap, K.In base → base.Ns mainGlobals mg → FnG P w K mg base k fa fd [x] sp) (hbind : ∀ (s : Shared) (u : Value), BindsTo s fd ⟨[u], []⟩ [(x, u)])
    (hsp : ∀ H : Hp, SqL K H a (ns.map V.int) → sp [.ref a] H (fun v _ => v = .bl true) fun _ _ _ => False) :
    codeAny (model P w) callerA (.call (.ref fa) ⟨[.ref a], []⟩) (fun r s' => r = .ok (.ret (.bool true)) ∧ OldK s₁.heap s'.heap ∧ s'.os = s₁.os ∧ AllBare s'.gens) s₁ := by
  obtain ⟨H, hok, only, seq⟩ := scr_is (P := P) (w := w) KX ha hi hl
  have apart : ∀ b, b ≠ a → H b = none := fun b ne => (only b).elim id fun z => absurd z.1 ne
  have free : ∀ {b o}, K.lookup b = some o → H b = none := fun {b o} e => (only b).elim id fun z => by
    rw [z.1, z.2.1] at e
    cases e
  have space : ∀ {b m}, s₁.heap.Ns b m → (hidT s₁.heap H).Ns b m := fun {b m} ⟨o, es, ep, e, d, r⟩ => by
    refine ⟨o, es, ep, hidT_get e (apart b fun same => ?_), d, r⟩
    rw [same, ha] at e
    cases e
    exact nomatch d
  have inB : K.In (hidT s₁.heap H) := fun b o e => hidT_get (KX b o e) (free e)
  have lim : (hidT s₁.heap H).NoLimit := hlim.elim fun mc z => ⟨mc, space z.1, z.2⟩
  have env : Env0 P w K mg (hidT s₁.heap H) callerA [] s₁ H := { frames := rfl, mod := ⟨inB, space hns, ⟨mb, space hb, hbb⟩, lim⟩, bs := fun b o => of_hidT, bsz := Nat.le_of_eq (hidT_size _ _), funs := trivial, frf := fun b z => absurd (show b ∈ ([] : List Addr) from z) (by simp), hok := hok, bare := .of_eq hg }
  have run := (F _ inB (space hns)).go (args := ⟨[.ref a], []⟩) (us := [.ref a]) (vs := [.ref a]) rfl hr env (hbind s₁ (.ref a)) (.cons rfl .nil) (hsp H seq)
  refine codeAny_mono run ?_
  rintro (er | (_ | _ | _ | u)) s' z
  · exact z.elim
  · exact z.elim
  · exact z.elim
  · exact z.elim
  · obtain ⟨v, H', os, bare, un, hok', rv, rfl⟩ := z
    cases rv
    refine ⟨rfl, OldK.of_keep ?_, os, bare⟩
    intro b o e
    rcases only b with z | ⟨_, _, ob, xs, z⟩
    · exact un.keep b o e z (by simp [frs]) (by simp)
    · have h1 := (hok b _ z).1
      have h2 := (hok' b _ (un.frzs b ob _ z)).1
      rw [e] at h1
      cases h1
      exact h2
theorem walk_ofG {l : PySem.W.OpenLaw} {n k : Nat} {q : Program} {loose : List Str} {XP : (Str → Option Value) → Heap → Prop} {YP : World → Heap → Prop} {d : DefRec} {x : Str}
    (hn : l.most = some n) (hn2 : n ≤ sizeLine) (hdf : d.params.defaults = []) (hr : Room k callerA)
    (F : ∀ (w : World) (mg : Str → Option Value) (fa : Addr) (h : Heap), YP w h → h.Ns mainGlobals mg → mg d.name = some (.ref fa) →
      ∃ (K : PySem.W.Frag) (fd : FuncData) (sp : Sp), K.In h ∧ (∀ (s : Shared) (u : Value), BindsTo s fd ⟨[u], []⟩ [(x, u)]) ∧
        (∀ (H : Hp) (a : Addr) (ns : List Int), ns.length ≤ n → SqL K H a (ns.map V.int) → sp [.ref a] H (fun v _ => v = .bl true) fun _ _ _ => False) ∧
        ∀ base : Heap, K.In base → base.Ns mainGlobals mg → FnG l.prog w K mg base k fa fd [x] sp) :
    PySem.W.WalkO q loose XP YP l.row.toRowW d [] (fun f vs => PySem.call f vs) := by
  apply Att.attach_call hn hdf
  intro w s₀ s₁ mg mb fa o pm cd doc a vs ns G Y ho hd hcd hmg hobj hints hlen hg
  rcases F w mg fa _ Y G.T.g hmg with ⟨K, fd, sp, inK, bi, prom, ok⟩
  exact law_callG inK G.T.g G.T.b G.T.builtins G.T.nolimit hg hobj hints (Nat.le_trans hlen hn2) hr ok bi fun H => prom H a ns hlen
end K29
namespace K29
open PySem PySem.Spec PyProof.Rows L2
theorem LeastOf.cmp {A B : Aut} {T : List (List Nat)} (ok : A.Ok) (h : LeastOf A B T) : LeastOf (K29.compl A) (K29.compl B) T := by
  refine IsLeast.congr (IsLeast.compl h) fun w hw => ?_
  have e : (K29.compl A).run 0 w = A.run 0 w := rfl
  rw [e, compl_acc (run_lt ok hw ok.n1)]
theorem LeastOf.self {A B : Aut} {T : List (List Nat)} (h : LeastOf A B T) : LeastOf B B T := by
  have e := h.ls_
  unfold LeastOf
  rw [e]
  exact IsLeast.congr h fun w hw => (h.ans w hw).symm
theorem merge_cmp (B : Aut) (T : List (List Nat)) : mergeOf (compl B) T = mergeOf B T := rfl
theorem due_cmp {A B : Aut} (x : T3) : due (compl A) (compl B) x = due A B x := by
  match x with
  | none => rfl
  | some ([], _, _) => rfl
  | some ([_], _, _) => rfl
  | some (_ :: _ :: _, _, _) => rfl
structure MgOk (A B : Aut) (T : List (List Nat)) (c : Nat) (u v : List Nat) : Prop where
  mc : c ∈ A.ls
  ou : Over A.ls u
  ov : Over A.ls v
  lu : u.length ≤ 60
  lv : v.length ≤ 60
  du : due A B (some ([c], u, v)) = true
theorem mg_ok {A B : Aut} {T : List (List Nat)} (L : LeastOf A B T) {c : Nat} {u v : List Nat} (e : mergeOf B T = some (c, u, v)) : MgOk A B T c u v := by
  obtain ⟨h1, h2, h3, h4, h5⟩ := merge_isM L e
  have hc : c ∈ A.ls := by have := (merge_mem e).1; rw [show B.ls = A.ls from L.ls_] at this; exact this
  have l1 := L.short h4
  have l2 := L.short h5
  refine ⟨hc, h2, h3, l1, l2, ?_⟩
  have hin : ∀ l : List Nat, Over A.ls l → l.length ≤ 60 → inText A.ls (.str (tx l)) = true := fun l ho hl => by
    show (decide ((tx l).length ≤ 4000) && (tx l).cps.toList.all fun c => decide (c ∈ A.ls)) = true
    rw [tx_list, tx_len, List.all_eq_true.mpr fun z hz => decide_eq_true (ho z hz), Bool.and_true]
    exact decide_eq_true (by omega)
  show (decide (c ∈ A.ls) && (inText A.ls (.str (tx u)) && inText A.ls (.str (tx v)) && isM B c u v)) = true
  rw [hin u h2 l1, hin v h3 l2, h1, decide_eq_true hc]; rfl
/-! what repr shows -/
structure Shw (d : PyData) : Prop where
  hs : d.showable = true
  hn : d.hasDict = false
  hd : d.depth < 100
  hl : d.shown.length ≤ sizeLine
theorem shw_bb (a b : Bool) : Shw (.list [.bool a, .bool b]) := ⟨rfl, rfl, (show 1 < 100 by omega), by cases a <;> cases b <;> decide +kernel⟩
theorem tx_short {l : List Nat} (h : ∀ z ∈ l, z < 1000) (B : Nat) : PyData.leavesShort B (.str (tx l)) = true := by
  show (tx l).cps.toList.all _ = true
  rw [tx_list]
  exact List.all_eq_true.mpr fun z hz => decide_eq_true (by have := h z hz; omega)
theorem mD_short {x : Option (Nat × List Nat × List Nat)} (h : ∀ c u v, x = some (c, u, v) → c < 1000 ∧ (∀ z ∈ u, z < 1000) ∧ ∀ z ∈ v, z < 1000) (B : Nat) : PyData.leavesShort B (mD x) = true := by
  match x, h with
  | none, _ => rfl
  | some (c, u, v), h =>
    obtain ⟨h1, h2, h3⟩ := h c u v rfl
    show (PyData.leavesShort B (.str (tx [c])) && (PyData.leavesShort B (.str (tx u)) && (PyData.leavesShort B (.str (tx v)) && true))) = true
    rw [tx_short (fun z hz => by simp at hz; omega), tx_short h2, tx_short h3]; rfl
theorem mD_weight {x : Option (Nat × List Nat × List Nat)} (h : ∀ c u v, x = some (c, u, v) → u.length ≤ 60 ∧ v.length ≤ 60) : (mD x).weight ≤ 200 := by
  match x, h with
  | none, _ => exact Nat.zero_le _
  | some (c, u, v), h =>
    obtain ⟨h2, h3⟩ := h c u v rfl
    show (tx [c]).cps.size + 1 + ((tx u).cps.size + 1 + ((tx v).cps.size + 1 + 0)) ≤ 200
    have e1 : (tx u).cps.size = u.length := by rw [← Array.length_toList, tx_list]
    have e2 : (tx v).cps.size = v.length := by rw [← Array.length_toList, tx_list]
    have e3 : (tx [c]).cps.size = 1 := rfl
    omega
theorem shw_mm {x : Option (Nat × List Nat × List Nat)} (h : ∀ c u v, x = some (c, u, v) → (c < 1000 ∧ (∀ z ∈ u, z < 1000) ∧ ∀ z ∈ v, z < 1000) ∧ u.length ≤ 60 ∧ v.length ≤ 60) : Shw (.list [mD x, mD x]) := by
  have h1 := mD_short (x := x) (fun c u v e => (h c u v e).1) 13
  have h2 := mD_weight (x := x) fun c u v e => (h c u v e).2
  refine ⟨by rcases x with _ | ⟨c, u, v⟩ <;> rfl, by rcases x with _ | ⟨c, u, v⟩ <;> rfl, by rcases x with _ | ⟨c, u, v⟩ <;> first | exact (show 1 < 100 by omega) | exact (show 2 < 100 by omega), ?_⟩
  have hl : PyData.leavesShort 13 (.list [mD x, mD x]) = true := by
    show (PyData.leavesShort 13 (mD x) && (PyData.leavesShort 13 (mD x) && true)) = true
    rw [h1]; rfl
  refine PyData.shown_fits (B := 13) (by omega) (by omega) hl ?_
  show (mD x).weight + 1 + ((mD x).weight + 1 + 0) ≤ 2 ^ 20
  omega
theorem shaped_mD {x : Option (Nat × List Nat × List Nat)} (h : ∀ c u v, x = some (c, u, v) → c < 1000 ∧ (∀ z ∈ u, z < 1000) ∧ ∀ z ∈ v, z < 1000) : SeqAt.shaped (mD x) = true := by
  match x, h with
  | none, _ => rfl
  | some (c, u, v), h =>
    obtain ⟨h1, h2, h3⟩ := h c u v rfl
    refine shaped_textsT (Y := [[c], u, v]) fun y hy z hz => ?_
    simp only [List.mem_cons, List.not_mem_nil, or_false] at hy
    rcases hy with rfl | rfl | rfl
    · simp at hz; omega
    · exact h2 z hz
    · exact h3 z hz
theorem eqv_mD (x : Option (Nat × List Nat × List Nat)) : PyData.eqv (mD x) (mD x) = true := by
  rcases x with _ | ⟨c, u, v⟩
  · rfl
  · simp [mD, PyData.eqv, PyData.eqvAll]
section
variable {K : PySem.W.Frag} {c C : Addr} {σ : L2.St} {H H' : Hp} {te t1 t2 ta tb : TE} {t : TA} {A B : Aut} {T : List (List Nat)} {r : Addr}
theorem gd_repr {ds : List PyData} (h : Gd K [] te σ H (.list ds)) (S : Shw (.list ds)) : Gd K [] (tCB (rRepr K) (tCons te tNil)) σ H (.str (PyData.shown (.list ds))) := fun H1 s1 w1 Q q =>
  h H1 s1 w1 _ fun v H2 s2 w2 p => by
    obtain ⟨a, xs, rfl, h1, h2⟩ := dp_lst p
    exact .inr ⟨a, .list ds, rfl, .lst h1 h2, S.hs, S.hn, S.hd, S.hl, q _ H2 s2 w2 (.str _)⟩
theorem gd_reprB {b : Bool} (h : Gd K [] te σ H (.bool b)) : Gd K [] (tCB (rRepr K) (tCons te tNil)) σ H (.str (if b then "True" else "False")) := fun H1 s1 w1 Q q =>
  h H1 s1 w1 _ fun v H2 s2 w2 p => by
    cases p
    exact .inl ⟨b, rfl, q _ H2 s2 w2 (.str _)⟩
theorem gt_sameS {z : Str} (ha : Gd K [] ta σ H (.str z)) (hb : Gd K [] tb σ H (.str z)) : GetsT [] (tTest (tOp rNe ta tb)) σ H false := fun H1 s1 w1 Q q =>
  ha H1 s1 w1 _ fun x H2 s2 w2 p => hb H2 (s1.trans s2) w2 _ fun y H3 s3 w3 p' => by
    cases dp_str p
    cases dp_str p'
    exact ⟨rfl, false, by simp, q H3 (s2.trans s3) w3⟩
theorem gets_plainS (ha : Gv [c] ta σ H (.ref c)) (hb : Gv [c] tb σ H (.ref c)) : Gets [c] (tCall (sp_plain K) [] E0 (tCons ta (tCons (tCall sp_signs [] E0 (tCons tb tNil)) tNil))) σ H (fun v H' => ∃ l, Lts l ∧ IsPl K l v H') := fun H1 s1 w1 Q k =>
  ha H1 s1 w1 _ fun v H2 s2 w2 e => hb H2 (s1.trans s2) w2 _ fun v2 H3 s3 w3 e2 => by
    subst e e2
    exact ⟨c, rfl, w3.c1, fun l H4 L s4 hc4 => ⟨c, l, rfl, hc4, L, fun v5 H5 p5 s5 hc5 => k v5 H5 (((s2.trans s3).trans s4).trans s5) (wm1 hc5) ⟨l, L, p5⟩⟩⟩
theorem gets_made {p dw ty : Addr} (ok : A.Ok) (hp : Gv [] ta σ H (.ref p)) (R : PlAt K H p A dw ty) : Gets [] (tCall (sp_made K C) [] E0 (tCons ta tNil)) σ H (IsRd K C A) :=
  gd_call (gA_v hp gA_nil) fun vs H2 s2 w2 e Q k => by
    subst e
    exact ⟨A, p, dw, ty, rfl, ok, R.sm0 s2, fun r H3 s3 p3 => k _ H3 s3 Wm.nil ⟨r, rfl, p3⟩⟩
theorem gets_mthere {p dw ty : Addr} (ok : A.Ok) (h9 : A.n ≤ 9) (hp : Gv [] ta σ H (.ref p)) (R : PlAt K H p A dw ty) : Gets [] (tCall (sp_merge_there K) [] E0 (tCons ta tNil)) σ H (IsMg K A) :=
  gd_call (gA_v hp gA_nil) fun vs H2 s2 w2 e Q k => by
    subst e
    exact ⟨A, p, dw, ty, rfl, ok, h9, R.sm0 s2, fun B T v H3 L s3 p3 => k _ H3 s3 Wm.nil ⟨B, T, L, p3⟩⟩
/-- first_merge of a reader, its least reader told -/
theorem gd_merge (ok : A.Ok) (L : LeastOf A B T) (hr : Gets [] ta σ H (IsRd K C A)) : Gd K [] (tCall (sp_merge_of K C) [] E0 (tCons ta tNil)) σ H (mD (mergeOf B T)) :=
  gd_call (gA_one hr) fun vs H2 s2 w2 p Q k => by
    obtain ⟨v, rfl, r, rfl, R⟩ := p
    exact ⟨A, r, rfl, ok, R, fun B' T' v H3 L' s3 p3 => k v H3 s3 Wm.nil (by obtain ⟨rfl, rfl⟩ := L.one L'; exact p3)⟩
theorem gd_turning (ok : A.Ok) (L : LeastOf A B T) (hr : Gets [] ta σ H (IsRd K C A)) : Gd K [] (tCall (sp_is_turning K C) [] E0 (tCons ta tNil)) σ H (.bool (mergeOf B T).isNone) :=
  gd_call (gA_one hr) fun vs H2 s2 w2 p Q k => by
    obtain ⟨v, rfl, r, rfl, R⟩ := p
    exact ⟨A, r, rfl, ok, R, fun B' T' v H3 L' s3 p3 => k v H3 s3 Wm.nil (by obtain ⟨rfl, rfl⟩ := L.one L'; exact p3)⟩
theorem gets_rvar {i : Nat} (hi : σ[i]? = some (some (.ref r))) (R : RdAt K C H r A) : Gets [] (tVar i) σ H (IsRd K C A) := (gv_var hi).imp fun v H1 s _ e => ⟨r, e, R.sm0 s⟩
theorem gets_lsr (ok : A.Ok) (L : LeastOf A B T) (hr : Gv [] ta σ H (.ref r)) (R : RdAt K C H r A) : Gets [] (tCall (sp_least_of K C) [] E0 (tCons ta tNil)) σ H (IsRd K C B) :=
  gd_call (gA_v hr gA_nil) fun vs H2 s2 w2 p Q k => by
    subst p
    exact ⟨A, r, rfl, ok, R.sm0 s2, fun B' T' r' H3 L' s3 R3 => k _ H3 s3 Wm.nil ⟨r', rfl, by obtain ⟨rfl, rfl⟩ := L.one L'; exact R3⟩⟩
theorem gets_inv (ok : A.Ok) (hr : Gv [] ta σ H (.ref r)) (R : RdAt K C H r A) : Gets [] (tUn (rInvR C (sp_invert K C)) ta) σ H (IsRd K C (compl A)) := fun H1 s1 w1 Q k =>
  hr H1 s1 w1 _ fun v H2 s2 w2 e => by
    subst e
    have R2 := R.sm0 (s1.trans s2)
    obtain ⟨d, ty, ⟨dx, hob⟩, _, _⟩ := id R2
    exact ⟨r, dx, _, rfl, hob, A, r, rfl, ok, R2, fun r' H3 s3 R3 => k _ H3 (s2.trans s3) Wm.nil ⟨r', rfl, R3⟩⟩
theorem gd_isMerge {x : T3} (ok : A.Ok) (L : LeastOf A B T) (hr : Gets [] ta σ H (IsRd K C A)) (hv : Gets [] tb σ H (fun v H' => MV K H' v x)) : Gd K [] (tCall (sp_is_merge' K C) [] E0 (tCons ta (tCons tb tNil))) σ H (.bool (due A B x)) :=
  gd_call (gA_cons hr (fun v H1 H2 s _ ⟨r, e, R⟩ => ⟨r, e, R.sm0 s⟩) (gA_one hv)) fun vs H2 s2 w2 p Q k => by
    obtain ⟨_, _, rfl, ⟨r, rfl, R⟩, v, rfl, m⟩ := p
    exact ⟨A, r, v, x, B, T, rfl, ok, R, m, L, fun v3 H3 s3 p3 => k v3 H3 s3 Wm.nil p3⟩
theorem LnAt.smC {p dw ty ll : Addr} (R : LnAt K H p B T dw ty ll) (s : Sm [c] H H') (w : Wm [c] H) (h1 : T ≠ []) : LnAt K H' p B T dw ty ll := by
  obtain ⟨xs, g1, g2⟩ := R.ln
  have hne : ll ≠ c := fun e => by
    subst e
    obtain ⟨i, j, k, e⟩ := w.c1
    rw [g1] at e
    cases e
    cases T with
    | nil => exact h1 rfl
    | cons a T => cases g2 with | cons q1 q2 => cases q1
  exact ⟨s.at w R.ob (fun _ e => by cases e), R.mv.sm s w (.inr (noL_moves B)), dp_sm s w (.inr (noL_row _)) R.ys, xs, s _ _ (by simpa using hne) g1, dps_sm s w (.inr (noLs_iff.mpr fun d hd => by
    obtain ⟨y, _, rfl⟩ := List.mem_map.mp hd
    rfl)) g2⟩
end
end K29
namespace K29
open PySem PySem.Spec PyProof.Rows L2
def RdInv (P : Program) (w : World) (K : PySem.W.Frag) (mg : Str → Option Value) (base : Heap) (C : Addr) : Prop :=
  ∃ (f : Addr) (fd : FuncData), PySem.W.findIn K (.ref C) "__invert__" = some (some (.ref f)) ∧ PySem.W.isFn K (.ref f) = true ∧ FnOk P w K mg base CX0 7 f fd ["self"] (sp_invert K C) ∧ Binds K fd ["self"] []
theorem pe_inv {X : Cx} {C : Addr} {k' : Nat} {K : PySem.W.Frag} {a : Expr} {ta : TE} {pos : Pos} (R : RdInv X.prog X.w K X.mg X.base C) (hr : Room k' X.A) (ha : PE X a ta) (hk : 7 ≤ k' := by decide) (hK : X.K = K := by rfl) : PE X (.UnaryOp .Invert a pos) (tUn (rInvR C (sp_invert K C)) ta) := by
  subst hK
  obtain ⟨f, fd, h1, h2, G, b⟩ := R
  exact pe_un (un_invR h1 h2 G (hr.mono hk) b) ha
section
variable {P : Program} {w : World} {K : PySem.W.Frag} {mg : Str → Option Value} {base : Heap} {f C : Addr} {fd : FuncData}
abbrev N__law_cell_right : List Str := ["_law_cup_here", "_law_plain", "_law_made", "_law_due", "_law_lean_here", "_law_turn", "_law_value", "_law_again"]
theorem sc__law_cell_right : FnScope N__law_cell_right ["_law_cup_here"] (defScope s__law_cell_right) := ⟨rfl, rfl, rfl, by decide +kernel, rfl, by decide +kernel, by decide +kernel⟩
def sp_cell_right : Sp := fun vs H Q _ => ∃ c : Addr, vs = [.ref c] ∧ IsCup H c ∧ ∀ H', Sm [c] H H' → IsCup H' c → Q (.bl true) H'
theorem ok_cell_right (F : Fun K "_law_cell_right" "_law_cell_right" s__law_cell_right f fd) (T : Txt K mg C) (RI : RdInv P w K mg base C)
    (G_law_plain_reader : Ok1 P w K mg base "_law_plain_reader" ["_law_cup_here", "_law_signs_here"] 5 (sp_plain K)) (G_law_signs : Ok1 P w K mg base "_law_signs" ["_law_cup_here"] 3 sp_signs)
    (G_law_made_reader : Ok1 P w K mg base "_law_made_reader" ["_law_plain"] 7 (sp_made K C)) (G_law_merge_there : Ok1 P w K mg base "_law_merge_there" ["_law_plain"] 3 (sp_merge_there K)) (G_law_lean : Ok1 P w K mg base "_law_lean" ["_law_plain"] 2 (sp_lean K))
    (Gfirst_merge : Ok1 P w K mg base "first_merge" ["reader"] 10 (sp_merge_of K C)) (Gis_turning : Ok1 P w K mg base "is_turning" ["reader"] 10 (sp_is_turning K C)) (Gleast_reader : Ok1 P w K mg base "least_reader" ["reader"] 9 (sp_least_of K C))
    (Gis_merge : Ok1 P w K mg base "is_merge" ["reader", "value"] 9 (sp_is_merge' K C)) (G_law_near : Ok1 P w K mg base "_law_near" ["_law_cup_here", "_law_plain", "_law_due"] 4 (sp_near K))
    (G_law_is_due : Ok1 P w K mg base "_law_is_due" ["_law_plain", "_law_lean_here", "_law_value"] 2 (sp_is_due K)) : FnG P w K mg base 11 f fd ["_law_cup_here"] sp_cell_right := by
  refine okG F sc__law_cell_right (fun vs H Q E h => ?_) (fun cdv A outer s H vs Q E gd hr h => ?_)
  · obtain ⟨c, rfl, _⟩ := h
    rfl
  · obtain ⟨c, rfl, hc, q⟩ := h
    have nd := sc__law_cell_right.nd
    have hu := hu_of hr
    have hu2 : (A.deeper (PyProof.Rows.envOfC "_law_cell_right" (defScope s__law_cell_right) s.heap.objs.size f cdv)).units + 200 < cLine := by have := hr.un; omega
    refine ⟨_, (pss_cons  (ps_set (i := 1) nd rfl (.inl rfl) (pe_callP G_law_plain_reader hr (by rfl) (pa_cons (pv 0) (pa_cons (pe_callP G_law_signs hr (by rfl) (pa_cons (pv 0) pa_nil)) pa_nil))))
  (pss_cons  (ps_asg (pe_tup (pa_cons (pe_callP G_law_made_reader hr (by rfl) (pa_cons (pv 1) pa_nil)) (pa_cons (pe_callP G_law_merge_there hr (by rfl) (pa_cons (pv 1) pa_nil)) (pa_cons (pe_callP G_law_lean hr (by rfl) (pa_cons (pv 1) pa_nil)) pa_nil)))) (pg_tup rfl (pgs_cons (pg_name (i := 2) nd rfl (.inr rfl)) (pgs_cons (pg_name (i := 3) nd rfl (.inl rfl)) (pgs_cons (pg_name (i := 4) nd rfl (.inl rfl)) pgs_nil)))))
  (pss_cons  (ps_if (PW.pt (pw_or (pt_cmpR op_ne (pe_callB (reprG_ K gd hu2) (by rfl) T.repr (by decide +kernel) (pa_cons (pe_lc (own := [("_law_again", 7)]) rfl nd (pi_range1 (by rfl) T.range (pa_cons pe_int pa_nil)) (blkOk_by (N := N__law_cell_right) (sc := defScope s__law_cell_right) (by decide +kernel)) (fun _ _ _ _ _ => (pg_name (i := 7) nd rfl (.inl rfl) (hf := .inr rfl))) (fun _ _ _ _ _ => pts_nil) (fun _ _ _ _ _ => (pe_callP Gfirst_merge hr (by rfl) (pa_cons (pv 2) pa_nil)))) pa_nil)) (pe_callB (reprG_ K gd hu2) (by rfl) T.repr (by decide +kernel) (pa_cons (pe_lst (pa_cons (pv 3) (pa_cons (pv 3) pa_nil))) pa_nil)) (nomark _)) (pw_or1 (pt_cmpR op_ne (pe_callB (reprG_ K gd hu2) (by rfl) T.repr (by decide +kernel) (pa_cons (pe_callP Gis_turning hr (by rfl) (pa_cons (pv 2) pa_nil)) pa_nil)) (pe_callB (reprG_ K gd hu2) (by rfl) T.repr (by decide +kernel) (pa_cons (pe_cmpR op_isN (pv 3) pe_non (nomark _)) pa_nil)) (nomark _))))) 
    (pss_one  (ps_ret pe_bl)) pss_nil)
  (pss_cons  (ps_if (PW.pt (pw_or (pt_cmpR (neD_ K hr.units) (pe_callP Gfirst_merge hr (by rfl) (pa_cons (pe_inv RI hr (pv 2)) pa_nil)) (pv 3) (nomark _)) (pw_or (pt_cmpR (neD_ K hr.units) (pe_callP Gfirst_merge hr (by rfl) (pa_cons (pe_callP Gleast_reader hr (by rfl) (pa_cons (pv 2) pa_nil)) pa_nil)) (pv 3) (nomark _)) (pw_or1 (PW.pt (pw_and (pt_cmpR op_notN (pv 3) pe_non (nomark _)) (pw_and1 (pt_not (pt_val (pe_callP Gis_merge hr (by rfl) (pa_cons (pv 2) (pa_cons (pv 3) pa_nil)))))))))))) 
    (pss_one  (ps_ret pe_bl)) pss_nil)
  (pss_cons  (ps_for PassesOwn.never rfl (pi_range1 (by rfl) T.range (pa_cons pe_int pa_nil)) (pg_name (i := 5) nd rfl (.inl rfl)) 
    (pss_cons  (ps_set (i := 6) nd rfl (.inl rfl) (pe_callP G_law_near hr (by rfl) (pa_cons (pv 0) (pa_cons (pv 1) (pa_cons (pv 3) pa_nil)))))
    (pss_one  (ps_if (pt_cmpR op_ne (pe_callB (reprG_ K gd hu2) (by rfl) T.repr (by decide +kernel) (pa_cons (pe_lst (pa_cons (pe_callP Gis_merge hr (by rfl) (pa_cons (pv 2) (pa_cons (pv 6) pa_nil))) (pa_cons (pe_callP Gis_merge hr (by rfl) (pa_cons (pe_inv RI hr (pv 2)) (pa_cons (pv 6) pa_nil))) pa_nil))) pa_nil)) (pe_callB (reprG_ K gd hu2) (by rfl) T.repr (by decide +kernel) (pa_cons (pe_op op_rep (pe_lst (pa_cons (pe_callP G_law_is_due hr (by rfl) (pa_cons (pv 1) (pa_cons (pv 4) (pa_cons (pv 6) pa_nil)))) pa_nil)) pe_int) pa_nil)) (nomark _)) 
      (pss_one  (ps_ret pe_bl)) pss_nil))))
  (pss_one  (ps_ret pe_bl))))))), ?_⟩
    refine rq_asgC (gets_plainS (K := K) (gv_var rfl) (gv_var rfl)) hc fun v1 H1 s1 hc1 p1 => ?_
    obtain ⟨l, L, B, p, dw, ty, rfl, ok, h9, hBl, R⟩ := p1
    rw [← hBl] at L
    refine rq_asgT3 (K := K) (PP := fun v1 v2 v3 H' => IsRd K C B v1 H' ∧ IsMg K B v2 H' ∧ ∃ B' T', LeastOf B B' T' ∧ IsLn K B' T' v3 H')
      (GetsA.imp (gA_cons (gets_made ok (gv_var rfl) R) (fun v H1 H2 s _ ⟨r, e, h⟩ => ⟨r, e, h.sm0 s⟩) (gA_cons (gets_mthere ok h9 (gv_var rfl) R) (fun v H1 H2 s _ ⟨B', T', h1, h2⟩ => ⟨B', T', h1, dp_sm0 s h2⟩) (gA_one (gets_lean ok h9 (gv_var rfl) R)))) fun vs H2 _ _ h => ?_) (fun v1 v2 v3 H1 H2 s h => ?_) fun v2 v3 v4 H2 s2 h => ?_
    · obtain ⟨v1, _, rfl, h1, v2, _, rfl, h2, v3, rfl, h3⟩ := h
      exact ⟨v1, v2, v3, rfl, h1, h2, h3⟩
    · obtain ⟨⟨r, e1, h1⟩, ⟨B', T', e2, h2⟩, B'', T'', e3, q1, dw', ty', ll', e4, h3⟩ := h
      exact ⟨⟨r, e1, h1.sm0 s⟩, ⟨B', T', e2, dp_sm0 s h2⟩, B'', T'', e3, q1, dw', ty', ll', e4, h3.sm0 s⟩
    obtain ⟨⟨r, rfl, RD⟩, ⟨B1, T1, Le, hdu⟩, B2, T2, Le2, q1, dw', ty', ll', rfl, RL⟩ := h
    obtain ⟨rfl, rfl⟩ := Le.one Le2
    have R2 := R.sm0 s2
    have hls : ∀ z ∈ B.ls, z < 1000 := fun z hz => by have := L.cod z hz; omega
    have hTne : T1 ≠ [] := fun e => by
      have h1 := Le.len
      have h2 := Le.ok.n1
      rw [e] at h1
      simp at h1
      omega
    have mo : ∀ a u v, mergeOf B1 T1 = some (a, u, v) → MgOk B B1 T1 a u v := fun a u v e => mg_ok Le e
    have mc : ∀ a u v, mergeOf B1 T1 = some (a, u, v) → a < 1000 ∧ (∀ z ∈ u, z < 1000) ∧ ∀ z ∈ v, z < 1000 := fun a u v e => by
      have m := mo a u v e
      exact ⟨hls a m.mc, fun z hz => hls z (m.ou z hz), fun z hz => hls z (m.ov z hz)⟩
    have smm := shw_mm (x := mergeOf B1 T1) fun a u v e => ⟨mc a u v e, (mo a u v e).lu, (mo a u v e).lv⟩
    have shm := shaped_mD mc
    have hc2 := ((wm1 hc1).same s2.same).c1
    refine rq_not (gt_or (a := false) (b := false) (gt_sameS (gd_repr (Gets.is (gd_lc1 (K := K) (n := 2) (fun _ => mD (mergeOf B1 T1)) (src_range1 (n := 2) (ga_cons (K := K) gd_i ga_nil) (by omega)) (by omega) (fun i x H' hi s w hx => gd_merge ok Le (gets_rvar rfl (RD.sm0 s))) (hno := fun i _ => ?_)) rfl) smm) (gd_repr (gd_lst (ga_cons (gd_var rfl Wm.nil hdu) (ga_cons (gd_var rfl Wm.nil hdu) ga_nil)) (show 2 ≤ 100000 by omega)) smm)) fun _ => gt_sameS (gd_reprB (gd_turning ok Le (gets_rvar rfl RD))) (gd_reprB fun H3 s3 w3 Q3 k => ⟨v3, rfl, rfl, ?_⟩)) fun H3 s3 => ?_
    · rcases mergeOf B1 T1 with _ | ⟨a, u, v⟩ <;> rfl
    · rw [mD_none hdu]
      exact k _ H3 (Sm.refl _ _) w3 (.bl _)
    have RD3 := RD.sm0 s3
    have hdu3 := dp_sm0 s3 hdu
    have dne : ∀ {te : TE} {σ : L2.St} {H' : Hp}, Gd K [] te σ H' (mD (mergeOf B1 T1)) → σ[3]? = some (some v3) → Sm [] H3 H' → GetsT [] (tTest (tOp (rNeD K) te (tVar 3))) σ H' false := fun h h3 s => GetsT.is (gt_test (gd_neD h (gd_var h3 Wm.nil (dp_sm0 s hdu3)) shm shm)) (by rw [eqv_mD]; rfl)
    refine rq_not (gt_or (a := false) (b := false) (dne (gd_merge (A := compl B) (B := compl B1) (compl_ok ok) (Le.cmp ok) (gets_inv ok (gv_var rfl) RD3)) rfl (Sm.refl _ _)) fun _ => gt_or (a := false) (b := false) (dne (gd_merge (A := B1) (B := B1) Le.ok (LeastOf.self Le) (gets_lsr ok Le (gv_var rfl) RD3)) rfl (Sm.refl _ _)) fun _ => ?_) fun H4 s4 => ?_
    · have ht : GetsT [] (tTest (tOp (fun x y H Q => y = V.non ∧ Q (.bl (!decide (x = V.non))) H) (tVar 3) (tC .non))) [some (.ref c), some (.ref p), some (.ref r), some v3, some (.ref q1), none, none, none] H3 (!(mergeOf B1 T1).isNone) := fun H5 s5 w5 Q5 k => ⟨v3, rfl, rfl, _, rfl, by rw [mD_none hdu3]; exact k H5 (Sm.refl _ _) w5⟩
      cases em : mergeOf B1 T1 with
      | none =>
        rw [em] at ht
        exact gt_and (a := false) (b := false) ht fun h => by cases h
      | some x =>
        obtain ⟨a, u, v⟩ := x
        rw [em] at ht hdu3
        have m := mo a u v em
        refine gt_and (a := true) (b := false) ht fun _ => gt_not (a := true) (gt_B (K := K) (Gets.is (gd_isMerge (x := some ([a], u, v)) ok Le (gets_rvar rfl RD3) ((gd_var rfl Wm.nil hdu3).imp fun v' H' _ _ p => MV.three p (by simp) (Nat.le_trans m.lu (by omega)) (Nat.le_trans m.lv (by omega)))) (by rw [m.du])))
    have s24 := s3.trans s4
    have RD4 := RD3.sm0 s4
    have R4 := R2.sm0 s24
    have RL4 := RL.sm0 s24
    have hdw : DueW K H4 B v3 := by
      have hdu4 := dp_sm0 s4 hdu3
      cases em : mergeOf B1 T1 with
      | none =>
        rw [em] at hdu4
        have e : v3 = .non := by cases hdu4; rfl
        subst e
        exact .non
      | some x =>
        obtain ⟨a, u, v⟩ := x
        rw [em] at hdu4
        have m := mo a u v em
        exact .due hdu4 m.mc m.ou m.ov (Nat.le_trans m.lu (by omega)) (Nat.le_trans m.lv (by omega))
    have hc4 := ((wm1 hc2).same s24.same).c1
    refine rq_forRng (K := K) (n := 10) (ga_cons (K := K) gd_i ga_nil) (by omega) (fun i σ' H' => ∃ w5 w6 : Option V, σ' = [some (.ref c), some (.ref p), some (.ref r), some v3, some (.ref q1), w5, w6, none] ∧ Sm [c] H4 H' ∧ IsCup H' c)
      (fun H5 s5 => ⟨none, none, rfl, s5.weak, ((wm1 hc4).same s5.same).c1⟩) (fun i σ' H5 N hi hP kk => ?_) fun σ' H5 hP => ?_
    · obtain ⟨w5, w6, rfl, s5, hc5⟩ := hP
      have w4 := wm1 hc4
      refine rq_asgC (P := fun v H' => ∃ x, MV K H' v x ∧ cok x) (fun H6 s6 w6 Q6 k => ⟨.ref c, rfl, .ref p, rfl, v3, rfl, c, p, v3, B, dw, ty, rfl, w6.c1, R4.sm (s5.trans s6) w4, L, hdw.smC (s5.trans s6) w4, fun v x H7 m1 m2 s7 hc7 => k v H7 s7 (wm1 hc7) ⟨x, m1, m2⟩⟩) hc5 fun v6 H6 s6 hc6 p6 => ?_
      obtain ⟨x, m1, m2⟩ := p6
      have s46 := s5.trans s6
      have RD6 := RD4.sm s46 w4
      have R6 := R4.sm s46 w4
      have RL6 := RL4.smC s46 w4 hTne
      have gmv : ∀ {σ : L2.St} {H' : Hp}, σ[6]? = some (some v6) → Sm [] H6 H' → Gets [] (tVar 6) σ H' (fun v H' => MV K H' v x) := fun h s => (gv_var h).imp fun v H' s' _ e => by
        subst e
        exact m1.sm (s.trans s')
      refine r_if (b := false) (gt_sameS (gd_repr (gd_lst (ga_cons (gd_isMerge ok Le (gets_rvar rfl RD6) (gmv rfl (Sm.refl _ _))) (ga_cons (Gets.is (gd_isMerge (compl_ok ok) (Le.cmp ok) (gets_inv ok (gv_var rfl) RD6) (gmv rfl (Sm.refl _ _))) (by rw [due_cmp])) ga_nil)) (show 2 ≤ 100000 by omega)) (shw_bb _ _)) (gd_repr (fun H7 s7 w7 Q7 k => ?_) (shw_bb _ _))) (fun h => by cases h) fun _ H7 s7 => kk _ _ ⟨_, _, rfl, s46.trans s7.weak, ((wm1 hc6).same s7.same).c1⟩
      refine ⟨.ref p, rfl, .ref q1, rfl, v6, rfl, B, B1, T1, p, q1, dw, ty, dw', ty', ll', v6, x, rfl, ok, R6.sm0 s7, Le, RL6.sm0 s7, m1.sm s7, m2, fun v8 H8 s8 p8 => ?_⟩
      have e8 : v8 = .bl (due B B1 x) := by cases p8; rfl
      subst e8
      refine ⟨show 1 ≤ sizeLine by decide, fun a ha => ⟨a, 2, [.bl (due B B1 x)], rfl, rfl, upd_same, by omega, by omega, show 2 ≤ sizeLine by decide, fun b hb => k _ _ ((s8.trans (Sm.new ha)).trans (Sm.new hb)) Wm.nil (.lst (SqL.of upd_same) (.cons (.bl _) (.cons (.bl _) .nil)))⟩⟩
    · obtain ⟨w5, w6, rfl, s5, hc5⟩ := hP
      refine r_ret (P := fun v _ => v = .bl true) gv_c fun v H6 s6 e => ?_
      subst e
      exact q H6 ((((s1.trans s2.weak).trans s24.weak).trans s5).trans s6.weak) ((wm1 hc5).same s6.same).c1
end
end K29
namespace K29
open PySem PySem.Spec PyProof.Rows L2
/-! the two readers at the end -/
theorem aut_ext {A B : Aut} (h1 : A.ls = B.ls) (h2 : A.rows = B.rows) (h3 : A.yes = B.yes) : A = B := by
  cases A; cases B; cases h1; cases h2; cases h3; rfl
def E1 : Aut := ⟨[97, 98], [[1, 1], [0, 0]], [1]⟩
def E2 : Aut := ⟨[97], [[1, 1]], [0, 1]⟩
theorem e1_ok : E1.Ok := ⟨by decide, by decide, by decide, by decide, by decide, by decide, by decide, by decide, by decide, by decide, by decide⟩
theorem e2_ok : E2.Ok := ⟨by decide, by decide, by decide, by decide, by decide, by decide, by decide, by decide, by decide, by decide, by decide⟩
theorem e1_cls : ClsOk E1 [0, 1] := by
  refine ⟨rfl, fun i j hi hj => ?_⟩
  have hi' : i < 2 := hi
  have hj' : j < 2 := hj
  have n01 : ¬ Alike E1 0 1 := fun h => by
    have := h [] Over.nil
    revert this; decide
  have n10 : ¬ Alike E1 1 0 := fun h => by
    have := h [] Over.nil
    revert this; decide
  match i, j, hi', hj' with
  | 0, 0, _, _ => exact ⟨fun _ _ _ => rfl, fun _ => rfl⟩
  | 0, 1, _, _ => exact ⟨fun e => absurd e (by decide), fun h => absurd h n01⟩
  | 1, 0, _, _ => exact ⟨fun e => absurd e (by decide), fun h => absurd h n10⟩
  | 1, 1, _, _ => exact ⟨fun _ _ _ => rfl, fun _ => rfl⟩
theorem e2_acc {q : Nat} (h : q < 2) : E2.acc q = true := by
  match q, h with
  | 0, _ => rfl
  | 1, _ => rfl
theorem e2_cls : ClsOk E2 [0, 0] := by
  refine ⟨rfl, fun i j hi hj => ?_⟩
  have h : Alike E2 i j := fun w hw => by rw [e2_acc (run_lt e2_ok hw hi), e2_acc (run_lt e2_ok hw hj)]
  refine ⟨fun _ => h, fun _ => ?_⟩
  have hi' : i < 2 := hi
  have hj' : j < 2 := hj
  match i, j, hi', hj' with
  | 0, 0, _, _ => rfl
  | 0, 1, _, _ => rfl
  | 1, 0, _, _ => rfl
  | 1, 1, _, _ => rfl
theorem e1_least : LeastOf E1 E1 [[], [97]] := by
  have h := pick_least e1_ok e1_cls
  have e1 : relab E1 (fun q => [0, 1].getD q 0) (pick (fun q => [0, 1].getD q 0) (E1.bfs 0)) = E1 := aut_ext (by decide +kernel) (by decide +kernel) (by decide +kernel)
  have e2 : ((pick (fun q => [0, 1].getD q 0) (E1.bfs 0)).map (·.2)) = [[], [97]] := by decide +kernel
  rw [e1, e2] at h
  exact h
def E3 : Aut := ⟨[97], [[0]], [0]⟩
theorem e2_least : LeastOf E2 E3 [[]] := by
  have h := pick_least e2_ok e2_cls
  have e1 : relab E2 (fun q => [0, 0].getD q 0) (pick (fun q => [0, 0].getD q 0) (E2.bfs 0)) = E3 := aut_ext (by decide +kernel) (by decide +kernel) (by decide +kernel)
  have e2 : ((pick (fun q => [0, 0].getD q 0) (E2.bfs 0)).map (·.2)) = [[]] := by decide +kernel
  rw [e1, e2] at h
  exact h
theorem e1_merge : mergeOf E1 [[], [97]] = some (97, [], [97]) := by decide +kernel
theorem e2_merge : mergeOf E3 [[]] = none := by decide +kernel
theorem run_rep (q0 c : Nat) {q1 : Nat} (h1 : E1.mv c q1 = q1) : ∀ n, E1.run q1 (List.replicate n c) = q1
  | 0 => rfl
  | n + 1 => by
    rw [List.replicate_succ]
    show E1.run (E1.mv c q1) (List.replicate n c) = q1
    rw [h1]
    exact run_rep q0 c h1 n
theorem run_a (n : Nat) : E1.run 0 (List.replicate (n + 1) 97) = 1 := run_rep 0 97 (q1 := 1) (by decide) n
theorem run_b (n : Nat) : E1.run 0 (List.replicate n 98) = 0 := run_rep 0 98 (q1 := 0) (by decide) n
theorem in_rep {c n : Nat} (hc : c ∈ E1.ls) : inText E1.ls (.str (tx (List.replicate n c))) = decide (n ≤ 4000) := by
  show (decide ((tx (List.replicate n c)).length ≤ 4000) && (tx (List.replicate n c)).cps.toList.all fun c => decide (c ∈ E1.ls)) = _
  rw [tx_list, tx_len, List.length_replicate, List.all_eq_true.mpr fun z hz => decide_eq_true (by rw [(List.mem_replicate.mp hz).2]; exact hc), Bool.and_true]
theorem due_1 : due E1 E1 (some ([98], [98, 98], [97, 97])) = true := by decide +kernel
theorem due_2 : due E1 E1 (some ([98], [98, 98], [97, 98])) = false := by decide +kernel
theorem due_3 : due E1 E1 (some ([97], List.replicate 4000 97, List.replicate 4000 98)) = true := by
  show (decide (97 ∈ E1.ls) && (inText E1.ls (.str (tx (List.replicate 4000 97))) && inText E1.ls (.str (tx (List.replicate 4000 98))) && isM E1 97 (List.replicate 4000 97) (List.replicate 4000 98))) = true
  rw [in_rep (by decide), in_rep (by decide)]
  unfold isM
  rw [run_a 3999, run_b 4000]
  decide
theorem due_4 : due E1 E1 (some ([97], List.replicate 4001 97, [98])) = false := by
  show (decide (97 ∈ E1.ls) && (inText E1.ls (.str (tx (List.replicate 4001 97))) && inText E1.ls (.str (tx [98])) && isM E1 97 (List.replicate 4001 97) [98])) = false
  rw [in_rep (by decide)]
  rfl
/-! text * int -/
def rMulS : R2 := fun x y H Q => ∃ c n : Nat, x = .str (tx [c]) ∧ y = .int (n : Int) ∧ 2 ≤ n ∧ n ≤ 100000 ∧ Q (.str (tx (List.replicate n c))) H
theorem mul_foldl (c : Nat) : ∀ (n : Nat) (acc : Array Nat), ((List.replicate n #[c]).foldl (· ++ ·) acc).toList = acc.toList ++ List.replicate n c
  | 0, acc => by simp
  | n + 1, acc => by
    rw [List.replicate_succ, List.foldl_cons, mul_foldl c n, List.replicate_succ]
    simp
theorem mul_tx (c n : Nat) (h : 2 ≤ n) : Txt.mul (tx [c]) (n : Int) = tx (List.replicate n c) := by
  unfold Txt.mul
  rw [if_neg (by omega), if_neg (by
    have e : ((n : Int) == 1) = false := beq_eq_false_iff_ne.mpr (by omega)
    have e2 : ((tx [c]).length == 0) = false := rfl
    rw [e, e2]; exact Bool.false_ne_true), Int.toNat_natCast]
  have e := mul_foldl c n #[]
  show Str.mk ((List.replicate n #[c]).foldl (· ++ ·) #[]) = Str.mk (List.replicate n c).toArray
  congr 1
  rw [← Array.toList_inj, e]
  simp
theorem op_mulS {X : Cx} : OpR X (binaryOp .Mult) rMulS := by
  intro pins s σ H x y v u Q I rx ry h
  obtain ⟨c, n, rfl, rfl, h2, hn, q⟩ := h
  obtain ⟨t, rfl⟩ := rx
  obtain ⟨t', rfl⟩ := ry
  refine SB.mul (n := (n : Int)) ⟨?_, fun _ _ => ?_, fun _ _ => ?_⟩ fun t' k => ?_
  · rw [decide_eq_false (by omega), decide_eq_false (by omega)]; rfl
  · have : (1 : Int) ≤ (2 ^ 63 - 1) / (n : Int) := by
      rw [Int.le_ediv_iff_mul_le (by omega)]
      omega
    rw [tx_len]
    show ¬ ((1 : Nat) : Int) > _
    omega
  · rw [tx_len, Int.toNat_natCast]
    show decide (1 * n > sizeLine) = false
    have h3 : 100000 ≤ sizeLine := by decide
    exact decide_eq_false (by omega)
  · rw [mul_tx c n h2]
    exact ⟨.str _, H, I.tok _, ⟨_, rfl⟩, q⟩
end K29
namespace K29
open PySem PySem.Spec PyProof.Rows L2
section
variable {K : PySem.W.Frag} {c C : Addr} {σ : L2.St} {H H' : Hp} {te t1 t2 ta tb : TE} {t : TA}
theorem gd_row2 {a b : Nat} : Gd K [] (tTup (tCons (tC (.int (a : Int))) (tCons (tC (.int (b : Int))) tNil))) σ H (rowD [a, b]) := gd_tup (ds := [.int (a : Int), .int (b : Int)]) (ga_cons gd_i (ga_cons gd_i ga_nil)) (show 2 ≤ 100000 by omega)
abbrev IsDt (K : PySem.W.Frag) (A : Aut) : V → Hp → Prop := fun v H' => ∃ d, v = .ref d ∧ DictAt K H' d (movesD A)
theorem gets_disp1 (h1 : Gd K [] t1 σ H (rowD [1, 1])) : Gets [] (tDisp [(tC (.str "a"), t1)]) σ H (IsDt K E2) := fun H1 s1 w1 Q k => by
  refine fun pd hpd => ?_
  have s2 : Sm [] H1 (upd H1 pd (.dK [])) := Sm.new hpd
  have hd2 : (upd H1 pd (.dK [])) pd = some (.dK []) := upd_same
  show t1 _ _ _
  refine h1 _ (s1.trans s2) Wm.nil _ fun v3 H3 s3 _ p3 => ?_
  have hd4 := s3 pd _ (by simp) hd2
  refine ⟨hd4, [(ck 97, v3)], rfl, (show 1 ≤ 15 by decide), ?_⟩
  rw [mergeK_new [(ck 97, v3)] [] (show [ck 97].Nodup by decide +kernel)]
  exact k _ _ ((s2.trans s3).mut hpd) Wm.nil ⟨pd, rfl, _, upd_same, rfl, .cons (dp_updK (noL_row [1, 1]) hd4 p3) .nil⟩
theorem gets_disp2 (h1 : Gd K [] t1 σ H (rowD [1, 1])) (h2 : Gd K [] t2 σ H (rowD [0, 0])) : Gets [] (tDisp [(tC (.str "a"), t1), (tC (.str "b"), t2)]) σ H (IsDt K E1) := fun H1 s1 w1 Q k => by
  refine fun pd hpd => ?_
  have s2 : Sm [] H1 (upd H1 pd (.dK [])) := Sm.new hpd
  have hd2 : (upd H1 pd (.dK [])) pd = some (.dK []) := upd_same
  show t1 _ _ _
  refine h1 _ (s1.trans s2) Wm.nil _ fun v3 H3 s3 _ p3 => ?_
  show t2 _ _ _
  refine h2 _ ((s1.trans s2).trans s3) Wm.nil _ fun v4 H4 s4 _ p4 => ?_
  have s24 := s3.trans s4
  have hd4 := s24 pd _ (by simp) hd2
  refine ⟨hd4, [(ck 97, v3), (ck 98, v4)], rfl, (show 2 ≤ 15 by decide), ?_⟩
  rw [mergeK_new [(ck 97, v3), (ck 98, v4)] [] (show [ck 97, ck 98].Nodup by decide +kernel)]
  exact k _ _ ((s2.trans s24).mut hpd) Wm.nil ⟨pd, rfl, _, upd_same, rfl, .cons (dp_updK (noL_row [1, 1]) hd4 (dp_sm0 s4 p3)) (.cons (dp_updK (noL_row [0, 0]) hd4 p4) .nil)⟩
theorem gets_mk {A : Aut} {ls : Str} {te : TE} {tf : TE} (ok : A.Ok) (hls : ls = tx A.ls) (hd : Gets [] te σ H (IsDt K A)) (hy : Gd K [] tf σ H (rowD A.yes)) : Gets [] (tMake C (sp_init K C) [] E0 (tCons (tC (.str ls)) (tCons te (tCons tf tNil)))) σ H (IsRd K C A) := by
  refine gets_make ok (GetsA.imp (gA_cons (P := fun v _ => v = .str ls) gv_c (fun _ _ _ _ _ h => h) (gA_cons hd (fun v H1 H2 s _ ⟨d, e, D⟩ => ⟨d, e, D.sm s Wm.nil (.inl rfl)⟩) (gA_one hy))) fun vs H2 _ _ h => ?_)
  obtain ⟨_, _, rfl, rfl, _, _, rfl, ⟨d, rfl, D⟩, v, rfl, y⟩ := h
  obtain ⟨ty, xs, rfl, _, _⟩ := dp_tup y
  exact ⟨d, ty, by rw [hls], D, y⟩
abbrev LDs (K : PySem.W.Frag) (ds : List PyData) : V → Hp → Prop := fun v H' => ∃ a xs, v = .ref a ∧ H' a = some (.lst xs) ∧ DpAll K H' xs ds
theorem gets_lds {ds : List PyData} (h : Ga K [] t σ H ds) (hl : ds.length ≤ 1000) : Gets [] (tLst t) σ H (LDs K ds) := fun H1 s1 w1 Q q =>
  h H1 s1 w1 _ fun xs H2 s2 w2 p => ⟨Nat.le_trans (by rw [dps_len p]; exact hl) (by decide), fun a ha => q _ _ (s2.trans (Sm.new ha)) Wm.nil ⟨a, xs, rfl, upd_same, dps_sm0 (Sm.new ha) p⟩⟩
theorem gd_ldsCat {i : Nat} {a : Addr} {xs : List V} {ds es : List PyData} (hi : σ[i]? = some (some (.ref a))) (ha : H a = some (.lst xs)) (hx : DpAll K H xs ds) (h : Ga K [] t σ H es) (h1 : ds.length ≤ 1000) (h2 : es.length ≤ 1000) : Gd K [] (tOp rCat (tVar i) (tLst t)) σ H (.list (ds ++ es)) := fun H1 s1 w1 Q q =>
  ⟨.ref a, hi, h H1 s1 w1 _ fun ys H2 s2 w2 p => ⟨Nat.le_trans (by rw [dps_len p]; exact h2) (by decide), fun b hb => ⟨a, b, xs, ys, rfl, rfl, ((s1.trans s2).trans (Sm.new hb)) _ _ (by simp) ha, upd_same, Nat.le_trans (m := 2000) (by rw [dps_len hx, dps_len p]; omega) (by decide), fun l hl => by
    have sb : Sm [] H2 (upd H2 b (.lst ys)) := Sm.new hb
    have sl : Sm [] (upd H2 b (.lst ys)) (upd (upd H2 b (.lst ys)) l (.lst (xs ++ ys))) := Sm.new hl
    exact q _ _ ((s2.trans sb).trans sl) Wm.nil (.lst (SqL.of upd_same) (dps_append (dps_sm0 (((s1.trans s2).trans sb).trans sl) hx) (dps_sm0 (sb.trans sl) p)))⟩⟩⟩
theorem gd_mulS {a n : Nat} {z : Str} (hz : z = tx [a]) (h2 : 2 ≤ n) (hn : n ≤ 100000) : Gd K [] (tOp rMulS (tC (.str z)) (tC (.int (n : Int)))) σ H (.str (tx (List.replicate n a))) := fun H1 s1 w1 Q q => by
  subst hz
  exact ⟨a, n, rfl, rfl, h2, hn, q _ H1 (Sm.refl _ _) w1 (.str _)⟩
theorem mv3 {te tf tg : TE} {a b d : List Nat} (h0 : Gd K [] te σ H (.str (tx a))) (h1 : Gd K [] tf σ H (.str (tx b))) (h2 : Gd K [] tg σ H (.str (tx d))) (l0 : a.length ≤ 10000) (l1 : b.length ≤ 10000) (l2 : d.length ≤ 10000) : Gets [] (tTup (tCons te (tCons tf (tCons tg tNil)))) σ H (fun v H' => MV K H' v (some (a, b, d))) :=
  (gd_tup (ga_cons h0 (ga_cons h1 (ga_cons h2 ga_nil))) (show 3 ≤ 100000 by omega)).imp fun v H' _ _ p => .three p l0 l1 l2
end
section
variable {P : Program} {w : World} {K : PySem.W.Frag} {mg : Str → Option Value} {base : Heap} {f C : Addr} {fd : FuncData}
abbrev N_law : List Str := ["_law_script", "_law_at", "_law_cup_here", "_law_ends", "_law_found"]
theorem sc_law : FnScope N_law ["_law_script"] (defScope s_law) := ⟨rfl, rfl, rfl, by decide +kernel, rfl, by decide +kernel, by decide +kernel⟩
def sp_law (K : PySem.W.Frag) : Sp := fun vs H Q _ => ∃ (a : Addr) (ns : List Int), vs = [.ref a] ∧ SqL K H a (ns.map V.int) ∧ ns.length ≤ 100000 ∧ ∀ H', Q (.bl true) H'
theorem ok_law (F : Fun K "law" "law" s_law f fd) (T : Txt K mg C) (RM : RdMk P w K mg base C)
    (G_law_cup : Ok1 P w K mg base "_law_cup" ["_law_script", "_law_at"] 1 (sp_cup K)) (G_law_cell_right : OkG P w K mg base "_law_cell_right" ["_law_cup_here"] 11 sp_cell_right)
    (Gfirst_merge : Ok1 P w K mg base "first_merge" ["reader"] 10 (sp_merge_of K C)) (Gis_turning : Ok1 P w K mg base "is_turning" ["reader"] 10 (sp_is_turning K C))
    (Gis_merge : Ok1 P w K mg base "is_merge" ["reader", "value"] 9 (sp_is_merge' K C)) : FnG P w K mg base 12 f fd ["_law_script"] (sp_law K) := by
  refine okG F sc_law (fun vs H Q E h => ?_) (fun cdv A outer s H vs Q E gd hr h => ?_)
  · obtain ⟨a, ns, rfl, _⟩ := h
    rfl
  · obtain ⟨a, ns, rfl, hs, hl, q⟩ := h
    have nd := sc_law.nd
    have hu := hu_of hr
    refine ⟨_, (pss_cons  (ps_for PassesOwn.never rfl (pi_range1 (by rfl) T.range (pa_cons (pe_callB (call_max2 rfl) (by rfl) T.max (by decide +kernel) (pa_cons pe_int (pa_cons (pe_callB (call_min2 rfl) (by rfl) T.min (by decide +kernel) (pa_cons pe_int (pa_cons (pe_callB (lenSeq_ K) (by rfl) T.len PySem.boot_len (pa_cons (pv 0) pa_nil)) pa_nil))) pa_nil))) pa_nil)) (pg_name (i := 1) nd rfl (.inl rfl)) 
    (pss_cons  (ps_set (i := 2) nd rfl (.inl rfl) (pe_callP G_law_cup hr (by rfl) (pa_cons (pv 0) (pa_cons (pv 1) pa_nil))))
    (pss_one  (ps_if (PW.pt (pw_or (pt_not (pt_val (pe_callG G_law_cell_right gd hr (by rfl) (pa_cons (pv 2) pa_nil)))) (pw_or1 (pt_not (pt_val (pe_callG G_law_cell_right gd hr (by rfl) (pa_cons (pv 2) pa_nil))))))) 
      (pss_one  (ps_ret pe_bl)) pss_nil))))
  (pss_cons  (ps_set (i := 3) nd rfl (.inl rfl) (pe_mkR RM hr (pa_cons pe_str (pa_cons (pe_disp (pps_cons pe_str (pe_tup (pa_cons pe_int (pa_cons pe_int pa_nil))) (pps_cons pe_str (pe_tup (pa_cons pe_int (pa_cons pe_int pa_nil))) pps_nil)) (by rfl) (by rfl) (fun z => by cases z) (by decide)) (pa_cons (pe_tup (pa_cons pe_int pa_nil)) pa_nil)))))
  (pss_cons  (ps_set (i := 4) nd rfl (.inl rfl) (pe_lst (pa_cons (pe_callP Gfirst_merge hr (by rfl) (pa_cons (pv 3) pa_nil)) (pa_cons (pe_callP Gis_merge hr (by rfl) (pa_cons (pv 3) (pa_cons (pe_tup (pa_cons pe_str (pa_cons pe_str (pa_cons pe_str pa_nil)))) pa_nil))) (pa_cons (pe_callP Gis_merge hr (by rfl) (pa_cons (pv 3) (pa_cons (pe_tup (pa_cons pe_str (pa_cons pe_str (pa_cons pe_str pa_nil)))) pa_nil))) (pa_cons (pe_callP Gis_merge hr (by rfl) (pa_cons (pv 3) (pa_cons (pe_tup (pa_cons pe_str (pa_cons (pe_op op_mulS pe_str pe_int) (pa_cons (pe_op op_mulS pe_str pe_int) pa_nil)))) pa_nil))) pa_nil))))))
  (pss_one  (ps_ret (pe_cmpR (eqD_ K hr.units) (pe_op op_cat (pv 4) (pe_lst (pa_cons (pe_callP Gis_merge hr (by rfl) (pa_cons (pv 3) (pa_cons (pe_tup (pa_cons pe_str (pa_cons (pe_op op_mulS pe_str pe_int) (pa_cons pe_str pa_nil)))) pa_nil))) (pa_cons (pe_callP Gis_turning hr (by rfl) (pa_cons (pe_mkR RM hr (pa_cons pe_str (pa_cons (pe_disp (pps_cons pe_str (pe_tup (pa_cons pe_int (pa_cons pe_int pa_nil))) pps_nil) (by rfl) (by rfl) (fun z => by cases z) (by decide)) (pa_cons (pe_tup (pa_cons pe_int (pa_cons pe_int pa_nil))) pa_nil)))) pa_nil)) pa_nil)))) (pe_lst (pa_cons (pe_tup (pa_cons pe_str (pa_cons pe_str (pa_cons pe_str pa_nil)))) (pa_cons pe_bl (pa_cons pe_bl (pa_cons pe_bl (pa_cons pe_bl (pa_cons pe_bl pa_nil))))))) (nomark _))))))), ?_⟩
    have gcell : ∀ {c : Addr} {σ : L2.St} {H' : Hp}, σ[2]? = some (some (.ref c)) → Gd K [c] (tCall sp_cell_right [] E0 (tCons (tVar 2) tNil)) σ H' (.bool true) := fun {c σ H'} h H1 s1 w1 Q k => ⟨.ref c, h, c, rfl, w1.c1, fun H2 s2 hc2 => k _ H2 s2 (wm1 hc2) (.bl true)⟩
    refine rq_forRng (K := K) (n := max 1 (min 2 ns.length)) (fun H1 s1 w1 Q1 k => ⟨.ref a, rfl, a, _, rfl, .inl (s1.lst (by simp) hs), 2, _, rfl, 1, _, rfl, k _ H1 (Sm.refl _ _) w1 (.cons ?_ .nil)⟩) (by omega) (fun i σ' H' => ∃ w1 w2 : Option V, σ' = [some (.ref a), w1, w2, none, none] ∧ Sm [] H H')
      (fun H1 s1 => ⟨none, none, rfl, s1⟩) (fun i σ' H1 N hi hP kk => ?_) fun σ' H1 hP => ?_
    · have e : (if (if (ns.length : Int) < 2 then (ns.length : Int) else 2) > 1 then (if (ns.length : Int) < 2 then (ns.length : Int) else 2) else 1) = ((max 1 (min 2 ns.length) : Nat) : Int) := by
        split <;> split <;> omega
      rw [List.length_map, e]
      exact .int _
    · obtain ⟨w1, w2, rfl, s1⟩ := hP
      refine rq_asg (P := fun v H' => ∃ c, v = .ref c ∧ H1 c = none ∧ IsCup H' c) (gd_call (PA := fun vs _ => vs = [.ref a, .int (i : Int)]) (gA_v (gv_var rfl) (gA_v (gv_var rfl) gA_nil)) fun vs H2 s2 w2 e Q2 k => ?_) fun v2 H2 s2 p2 => ?_
      · subst e
        exact ⟨a, ns, i, rfl, (s1.trans s2).lst (by simp) hs, by omega, fun c H3 hc s3 hcup => k _ H3 s3 Wm.nil ⟨c, rfl, s2.free Wm.nil Wm.nil hc, hcup⟩⟩
      · obtain ⟨c, rfl, hcn, hcup⟩ := p2
        have ht : GetsT [c] (tOr (tNot (tB (tCall sp_cell_right [] E0 (tCons (tVar 2) tNil)))) (tNot (tB (tCall sp_cell_right [] E0 (tCons (tVar 2) tNil))))) [some (.ref a), some (.int (i : Int)), some (.ref c), none, none] H2 false :=
          gt_or (a := false) (b := false) (gt_not (a := true) (gt_B (gcell rfl))) fun _ => gt_not (a := true) (gt_B (gcell rfl))
        refine ht H2 (Sm.refl _ _) (wm1 hcup) _ fun H3 s3 w3 => iteF (kk _ _ ⟨_, _, rfl, fun b o hb ho => ?_⟩)
        have h1 := s1 b o hb ho
        have hne : b ∉ [c] := fun hm => by
          simp at hm
          subst hm
          rw [h1] at hcn
          cases hcn
        exact s3 b o hne (s2 b o hb h1)
    · obtain ⟨w1, w2, rfl, s1⟩ := hP
      refine rq_asg (gets_mk (C := C) (A := E1) e1_ok rfl (gets_disp2 (gd_row2 (a := 1) (b := 1)) (gd_row2 (a := 0) (b := 0))) (gd_tup (ds := [.int 1]) (ga_cons gd_i ga_nil) (show 1 ≤ 100000 by omega))) fun v3 H3 s3 p3 => ?_
      obtain ⟨r, rfl, RD⟩ := p3
      have ru : ∀ {σ : L2.St} {H' : Hp}, σ[3]? = some (some (.ref r)) → Sm [] H3 H' → Gets [] (tVar 3) σ H' (IsRd K C E1) := fun h s => gets_rvar h (RD.sm0 s)
      refine rq_asg (gets_lds (K := K) (ds := [mD (some (97, [], [97])), .bool true, .bool false, .bool true]) (ga_cons (Gets.is (gd_merge e1_ok e1_least (ru rfl (Sm.refl _ _))) (by rw [e1_merge])) (ga_cons (Gets.is (gd_isMerge e1_ok e1_least (ru rfl (Sm.refl _ _)) (mv3 (a := [98]) (b := [98, 98]) (d := [97, 97]) gd_s gd_s gd_s (by simp) (by simp) (by simp))) (by rw [due_1]))
        (ga_cons (Gets.is (gd_isMerge e1_ok e1_least (ru rfl (Sm.refl _ _)) (mv3 (a := [98]) (b := [98, 98]) (d := [97, 98]) gd_s gd_s gd_s (by simp) (by simp) (by simp))) (by rw [due_2])) (ga_cons (Gets.is (gd_isMerge e1_ok e1_least (ru rfl (Sm.refl _ _)) (mv3 (a := [97]) (b := List.replicate 4000 97) (d := List.replicate 4000 98) gd_s (gd_mulS (n := 4000) rfl (by omega) (by omega)) (gd_mulS (n := 4000) rfl (by omega) (by omega)) (by simp) (by rw [List.length_replicate]; omega) (by rw [List.length_replicate]; omega))) (by rw [due_3])) ga_nil)))) (show 4 ≤ 1000 by omega)) fun v4 H4 s4 p4 => ?_
      obtain ⟨a4, xs4, rfl, ha4, hx4⟩ := p4
      refine r_ret (gd_eqD (K := K) (da := .list ([mD (some (97, [], [97])), .bool true, .bool false, .bool true] ++ [.bool false, .bool true])) (db := .list [mD (some (97, [], [97])), .bool true, .bool false, .bool true, .bool false, .bool true]) (gd_ldsCat rfl ha4 hx4 (ga_cons (Gets.is (gd_isMerge e1_ok e1_least (ru rfl s4) (mv3 (a := [97]) (b := List.replicate 4001 97) (d := [98]) gd_s (gd_mulS (n := 4001) rfl (by omega) (by omega)) gd_s (by simp) (by rw [List.length_replicate]; omega) (by simp))) (by rw [due_4]))
        (ga_cons (Gets.is (gd_turning e2_ok e2_least (gets_mk (C := C) (A := E2) e2_ok rfl (gets_disp1 (gd_row2 (a := 1) (b := 1))) (gd_row2 (a := 0) (b := 1)))) (by rw [e2_merge]; rfl)) ga_nil)) (show 4 ≤ 1000 by omega) (show 2 ≤ 1000 by omega))
        (gd_lst (ga_cons (gd_tup (ds := [.str (tx [97]), .str (tx []), .str (tx [97])]) (ga_cons gd_s (ga_cons gd_s (ga_cons gd_s ga_nil))) (show 3 ≤ 100000 by omega)) (ga_cons gd_b (ga_cons gd_b (ga_cons gd_b (ga_cons gd_b (ga_cons gd_b ga_nil)))))) (show 6 ≤ 100000 by omega)) (by decide +kernel) (by decide +kernel)) fun v5 H5 s5 p5 => ?_
      have e5 : PyData.eqv (.list ([mD (some (97, [], [97])), .bool true, .bool false, .bool true] ++ [.bool false, .bool true])) (.list [mD (some (97, [], [97])), .bool true, .bool false, .bool true, .bool false, .bool true]) = true := by decide +kernel
      rw [e5] at p5
      cases p5
      exact q H5
end
end K29
set_option maxHeartbeats 0
/-! the head: the top's run, what it leaves -/
namespace K29
open PySem PySem.Spec PyProof.Rows L2
def dF (x : Str) (st : Stmt) : He.FnD := ⟨(x, none), x, x, defArgs st, defBody st, defScope st⟩
def dM (x q : Str) (st : Stmt) : He.FnD := ⟨("Reader", some x), x, q, defArgs st, defBody st, defScope st⟩
def fn : List He.FnD := [
  dF "is_integer" s_is_integer,
  dF "is_integer_within" s_is_integer_within,
  dF "are_small" s_are_small,
  dF "is_letters" s_is_letters,
  dF "is_text_within" s_is_text_within,
  dF "require_letters" s_require_letters,
  dF "are_states" s_are_states,
  dF "are_moves" s_are_moves,
  dF "is_state_set" s_is_state_set,
  dF "state_behind" s_state_behind,
  dF "says" s_says,
  dF "reader_from" s_reader_from,
  dF "require_reader" s_require_reader,
  dF "numbers_of" s_numbers_of,
  dF "classes_of" s_classes_of,
  dF "least_of" s_least_of,
  dF "first_texts" s_first_texts,
  dF "least_reader" s_least_reader,
  dF "merge_of" s_merge_of,
  dF "first_merge" s_first_merge,
  dF "is_merge" s_is_merge,
  dF "is_turning" s_is_turning,
  dF "_law_first_lines" s__law_first_lines,
  dF "_law_kin" s__law_kin,
  dF "_law_lean" s__law_lean,
  dF "_law_merge_there" s__law_merge_there,
  dF "_law_cup" s__law_cup,
  dF "_law_bit" s__law_bit,
  dF "_law_pick" s__law_pick,
  dF "_law_dealt" s__law_dealt,
  dF "_law_signs" s__law_signs,
  dF "_law_line" s__law_line,
  dF "_law_some_of" s__law_some_of,
  dF "_law_any_ways" s__law_any_ways,
  dF "_law_turning_ways" s__law_turning_ways,
  dF "_law_ring_ways" s__law_ring_ways,
  dF "_law_pair_ways" s__law_pair_ways,
  dF "_law_turner" s__law_turner,
  dF "_law_plain_reader" s__law_plain_reader,
  dF "_law_read" s__law_read,
  dF "_law_made_reader" s__law_made_reader,
  dF "_law_is_due" s__law_is_due,
  dF "_law_near" s__law_near,
  dF "_law_cell_right" s__law_cell_right,
  dF "law" s_law,
  dM "__init__" "Reader.__init__" s_init,
  dM "__invert__" "Reader.__invert__" s_invert,
  dM "__len__" "Reader.__len__" s_len]
def fa : List He.Fa := [
  .glo "is_integer",
  .glo "is_integer_within",
  .glo "are_small",
  .glo "is_letters",
  .glo "is_text_within",
  .glo "require_letters",
  .glo "are_states",
  .glo "are_moves",
  .glo "is_state_set",
  .glo "state_behind",
  .glo "says",
  .glo "reader_from",
  .glo "require_reader",
  .glo "numbers_of",
  .glo "classes_of",
  .glo "least_of",
  .glo "first_texts",
  .glo "least_reader",
  .glo "merge_of",
  .glo "first_merge",
  .glo "is_merge",
  .glo "is_turning",
  .glo "_law_first_lines",
  .glo "_law_kin",
  .glo "_law_lean",
  .glo "_law_merge_there",
  .glo "_law_cup",
  .glo "_law_bit",
  .glo "_law_pick",
  .glo "_law_dealt",
  .glo "_law_signs",
  .glo "_law_line",
  .glo "_law_some_of",
  .glo "_law_any_ways",
  .glo "_law_turning_ways",
  .glo "_law_ring_ways",
  .glo "_law_pair_ways",
  .glo "_law_turner",
  .glo "_law_plain_reader",
  .glo "_law_read",
  .glo "_law_made_reader",
  .glo "_law_is_due",
  .glo "_law_near",
  .glo "_law_cell_right",
  .glo "law",
  .keep "is_integer",
  .keep "is_integer_within",
  .keep "are_small",
  .keep "is_letters",
  .keep "is_text_within",
  .keep "require_letters",
  .keep "are_states",
  .keep "are_moves",
  .keep "is_state_set",
  .keep "state_behind",
  .keep "says",
  .keep "reader_from",
  .keep "require_reader",
  .keep "numbers_of",
  .keep "classes_of",
  .keep "least_of",
  .keep "first_texts",
  .keep "least_reader",
  .keep "merge_of",
  .keep "first_merge",
  .keep "is_merge",
  .keep "is_turning",
  .keep "_law_first_lines",
  .keep "_law_kin",
  .keep "_law_lean",
  .keep "_law_merge_there",
  .keep "_law_cup",
  .keep "_law_bit",
  .keep "_law_pick",
  .keep "_law_dealt",
  .keep "_law_signs",
  .keep "_law_line",
  .keep "_law_some_of",
  .keep "_law_any_ways",
  .keep "_law_turning_ways",
  .keep "_law_ring_ways",
  .keep "_law_pair_ways",
  .keep "_law_turner",
  .keep "_law_plain_reader",
  .keep "_law_read",
  .keep "_law_made_reader",
  .keep "_law_is_due",
  .keep "_law_near",
  .keep "_law_cell_right",
  .keep "law",
  .glo "Reader", .cls "Reader", .mkr "Reader",
  .noat "Reader" "own_letters",
  .noat "Reader" "own_moves",
  .noat "Reader" "own_yes",
  .meth "Reader" "__init__",
  .meth "Reader" "__invert__",
  .meth "Reader" "__len__",
  .int "MAX_TEXT" 4000,
  .int "MOST_LETTERS" 3,
  .int "MAX_STATES" 60,
  .int "GREATEST" (10 ^ 200 - 1),
  .free "len",
  .free "isinstance",
  .free "all",
  .free "zip",
  .free "range",
  .free "enumerate",
  .free "abs",
  .free "max",
  .free "min",
  .free "repr",
  .free "sorted",
  .free "int",
  .free "str",
  .free "bool",
  .free "tuple",
  .free "list",
  .free "dict",
  .free "set"]
/-- what the list of facts has no word for -/
def extra (K : PySem.W.Frag) : Bool :=
  decide (PySem.W.findIn K (.ref (He.ga K "Reader")) "__class__" = some (some (.builtin "object.__class__"))) &&
  (decide (PySem.W.specialIn K (.builtin "object.__class__") "__get__" = some (some (.builtin "getset_descriptor.__get__"))) &&
  (decide (PySem.W.takesIn K (.builtin "object.__class__") = some true) && decide (PySem.W.mroIn K (He.ga K "Reader") (.type "object") = some true)))
abbrev AlX : Type := Bool × He.Al
def obsX (K : PySem.W.Frag) : AlX := (extra K, He.obsE fa fn K)
def SaysX (K : PySem.W.Frag) : Prop := extra K = true ∧ He.SaysE fa fn K
def obsXG (g : Addr → Option Obj) : AlX := obsX (He.frG g (He.asG g 4))
def hk : PySem.W.Hook where
  α := AlX
  obs := fun s => obsXG s.heap.get?
  val := fun _ => (true, He.valE fn)
  says := fun _ h => ∃ K : PySem.W.Frag, K.In h ∧ SaysX K
  of := fun _ _ e => ⟨_, He.frG_in, congrArg (fun z : AlX => z.1) e, congrArg (fun z : AlX => z.2) e⟩
  keeps := fun _ _ _ ⟨K, hK, c⟩ k => ⟨K, PySem.W.Frag.In.keeps hK k, c⟩
theorem obsXG_eq {g : Addr → Option Obj} {s : Shared} (h : ∀ a, g a = s.heap.get? a) : obsXG g = hk.obs s := by
  have e : g = s.heap.get? := funext h
  rw [e] <;> rfl
abbrev R29 : PySem.W.OpenRow := PySem.W.OpenLaw.row PySem.Challenge.rw_whatcounts_k29_whole_merges
def ob (s : PySem.W.SharedT) : AlX := obsXG (HandSHeadRun.getT s)
theorem ob_eq (s : PySem.W.SharedT) : ob s = hk.obs s.abs := obsXG_eq (HandSHeadRun.getT_eq s)
def loose1 : List Str := ["_wall", "CountError", "InvalidLetters", "InvalidReader", "InvalidOperation", "InvalidNumber", "TooMany", "MAX_TEXT", "MOST_LETTERS", "GREATEST", "is_integer", "is_integer_within"]
def loose2 : List Str := ["are_small", "is_letters", "is_text_within", "require_letters", "MAX_STATES", "are_states", "are_moves", "is_state_set", "Reader", "state_behind", "says", "hopes_of"]
def loose3 : List Str := ["reader_from", "moved_pair", "pairs_led", "reader_of", "require_reader", "numbers_of", "classes_of", "least_of", "first_texts", "least_reader", "merge_of", "first_merge"]
def loose4 : List Str := ["is_merge", "is_turning", "_law_first_lines", "_law_kin", "_law_lean", "_law_merge_there", "_law_cup", "_law_bit", "_law_pick", "_law_dealt", "_law_signs", "_law_line"]
def loose5 : List Str := ["_law_some_of", "_law_any_ways", "_law_turning_ways", "_law_ring_ways", "_law_pair_ways", "_law_turner", "_law_plain_reader", "_law_read", "_law_made_reader", "_law_is_due", "_law_near", "_law_cell_right"]
def loose29 : List Str := loose1 ++ loose2 ++ loose3 ++ loose4 ++ loose5
theorem run29 (w : World) : HandSHeadRun.RunEq R29 (PySem.W.view R29.prog [65]) hk ob 6000 loose29 w := by
  intro os
  kernel_rfl
end K29
set_option maxHeartbeats 0
/-! the end: the head's facts give each def its promise, the law's promise gives the statement -/
namespace K29
open PySem PySem.Spec PyProof.Rows L2
section
variable {P : Program} {w : World} {K : PySem.W.Frag} {mg : Str → Option Value} {h base : Heap}
theorem mkF (X : K.In h) (G : h.Ns mainGlobals mg) (c : He.SaysE fa fn K) (i : Nat) {x : Str} {st : Stmt} (hg : fa[i]? = some (.glo x)) (hk : fa[45 + i]? = some (.keep x)) (hd : fn[i]? = some (dF x st)) :
    ∃ f fd, mg x = some (.ref f) ∧ PySem.W.keepIn K (.ref f) = true ∧ Fun K x x st f fd := by
  obtain ⟨oc, od, osl, kV, doc, pm, an, cdv, ct, l, hc⟩ := c.def_ i (d := dF x st) hd
  have k := He.keep_ok (c.fact (45 + i) hk)
  exact ⟨He.ga K x, _, He.glo_ok X G (c.fact i hg), k, fun_mk l hc k⟩
theorem mkM (c : He.SaysE fa fn K) (i j : Nat) {m q : Str} {st : Stmt} (hg : fa[j]? = some (.meth "Reader" m)) (hd : fn[i]? = some (dM m q st)) : ∃ fd, Fun K m q st (He.ma K (He.ga K "Reader") m) fd := by
  obtain ⟨oc, od, osl, kV, doc, pm, an, cdv, ct, l, hc⟩ := c.def_ i (d := dM m q st) hd
  exact ⟨_, fun_mk l hc (He.meth_ok (c.fact j hg)).kp⟩
theorem mk1 {x : Str} {st : Stmt} {ps : List Str} {k : Nat} {sp : Sp} (hF : ∃ f fd, mg x = some (.ref f) ∧ PySem.W.keepIn K (.ref f) = true ∧ Fun K x x st f fd) (ok : ∀ f fd, Fun K x x st f fd → FnOk P w K mg base CX0 k f fd ps sp) (hb : ∀ f fd, Fun K x x st f fd → Binds K fd ps []) : Ok1 P w K mg base x ps k sp := by
  obtain ⟨f, fd, h1, h2, F⟩ := hF
  exact ⟨f, fd, ok f fd F, h1, h2, hb f fd F⟩
theorem mkG {x : Str} {st : Stmt} {ps : List Str} {k : Nat} {sp : Sp} (hF : ∃ f fd, mg x = some (.ref f) ∧ PySem.W.keepIn K (.ref f) = true ∧ Fun K x x st f fd) (ok : ∀ f fd, Fun K x x st f fd → FnG P w K mg base k f fd ps sp) (hb : ∀ f fd, Fun K x x st f fd → Binds K fd ps []) : OkG P w K mg base x ps k sp := by
  obtain ⟨f, fd, h1, h2, F⟩ := hF
  exact ⟨f, fd, ok f fd F, h1, h2, hb f fd F⟩
theorem txt_of (X : K.In h) (G : h.Ns mainGlobals mg) (c : SaysX K) : Txt K mg (He.ga K "Reader") := by
  obtain ⟨e, c⟩ := c
  unfold extra at e
  rw [Bool.and_eq_true, Bool.and_eq_true, Bool.and_eq_true] at e
  obtain ⟨e1, e2, e3, e4⟩ := e
  exact ⟨He.cls_ok (c.fact 91 (f := .cls "Reader") rfl), He.noat_ok (c.fact 93 (f := .noat "Reader" "own_letters") rfl), He.noat_ok (c.fact 94 (f := .noat "Reader" "own_moves") rfl), He.noat_ok (c.fact 95 (f := .noat "Reader" "own_yes") rfl),
    He.glo_ok X G (c.fact 90 (f := .glo "Reader") rfl), of_decide_eq_true e1, of_decide_eq_true e2, of_decide_eq_true e3, of_decide_eq_true e4,
    He.int_ok X G (c.fact 99 (f := .int "MAX_TEXT" 4000) rfl), He.int_ok X G (c.fact 100 (f := .int "MOST_LETTERS" 3) rfl), He.int_ok X G (c.fact 101 (f := .int "MAX_STATES" 60) rfl), He.int_ok X G (c.fact 102 (f := .int "GREATEST" (10 ^ 200 - 1)) rfl),
    He.free_ok X G (c.fact 103 (f := .free "len") rfl), He.free_ok X G (c.fact 104 (f := .free "isinstance") rfl), He.free_ok X G (c.fact 105 (f := .free "all") rfl), He.free_ok X G (c.fact 106 (f := .free "zip") rfl), He.free_ok X G (c.fact 107 (f := .free "range") rfl), He.free_ok X G (c.fact 108 (f := .free "enumerate") rfl), He.free_ok X G (c.fact 109 (f := .free "abs") rfl), He.free_ok X G (c.fact 110 (f := .free "max") rfl), He.free_ok X G (c.fact 111 (f := .free "min") rfl),
    He.free_ok X G (c.fact 112 (f := .free "repr") rfl), He.free_ok X G (c.fact 113 (f := .free "sorted") rfl), He.free_ok X G (c.fact 114 (f := .free "int") rfl), He.free_ok X G (c.fact 115 (f := .free "str") rfl), He.free_ok X G (c.fact 116 (f := .free "bool") rfl), He.free_ok X G (c.fact 117 (f := .free "tuple") rfl), He.free_ok X G (c.fact 118 (f := .free "list") rfl), He.free_ok X G (c.fact 119 (f := .free "dict") rfl), He.free_ok X G (c.fact 120 (f := .free "set") rfl)⟩
theorem facts29 {f : Addr} (X : K.In h) (G : h.Ns mainGlobals mg) (hfa : mg ("law" : Str) = some (.ref f)) (cc : SaysX K) :
    ∃ fd : FuncData, (∀ (s : Shared) (v : Value), BindsTo s fd ⟨[v], []⟩ [("_law_script", v)]) ∧ ∀ base : Heap, K.In base → base.Ns mainGlobals mg → FnG P w K mg base 12 f fd ["_law_script"] (sp_law K) := by
  have T := txt_of X G cc
  obtain ⟨_, c⟩ := cc
  have FRM := mkM c 45 96 (m := "__init__") (q := "Reader.__init__") (st := s_init) rfl rfl
  have FRI := mkM c 46 97 (m := "__invert__") (q := "Reader.__invert__") (st := s_invert) rfl rfl
  have FRL := mkM c 47 98 (m := "__len__") (q := "Reader.__len__") (st := s_len) rfl rfl
  obtain ⟨f', fd, h1, h2, F⟩ := mkF X G c 44 (x := "law") (st := s_law) rfl rfl rfl
  have e := hfa.symm.trans h1
  cases e
  obtain ⟨oc, od, kV, doc, pm, an, cdv, ct, osl, efd, lk, hcd⟩ := id F.ex
  refine ⟨fd, fun s v => by subst efd; exact .of_eq rfl, fun base _ _ => ?_⟩
  have G_ok_is_integer := mk1 (P := P) (w := w) (base := base) (ps := ["value"]) (mkF X G c 0 (x := "is_integer") (st := s_is_integer) rfl rfl rfl) (fun _ _ F => ok_is_integer F T) (fun _ _ F => F.binds fun _ _ _ _ _ _ us hl => match us, hl with | [_], _ => rfl)
  have G_ok_is_integer_within := mk1 (P := P) (w := w) (base := base) (ps := ["value", "low", "high"]) (mkF X G c 1 (x := "is_integer_within") (st := s_is_integer_within) rfl rfl rfl) (fun _ _ F => ok_is_integer_within F T G_ok_is_integer) (fun _ _ F => F.binds fun _ _ _ _ _ _ us hl => match us, hl with | [_, _, _], _ => rfl)
  have G_ok_are_small := mk1 (P := P) (w := w) (base := base) (ps := ["text"]) (mkF X G c 2 (x := "are_small") (st := s_are_small) rfl rfl rfl) (fun _ _ F => ok_are_small F T) (fun _ _ F => F.binds fun _ _ _ _ _ _ us hl => match us, hl with | [_], _ => rfl)
  have G_ok_is_text_within := mk1 (P := P) (w := w) (base := base) (ps := ["letters", "value"]) (mkF X G c 4 (x := "is_text_within") (st := s_is_text_within) rfl rfl rfl) (fun _ _ F => ok_is_text_within F T) (fun _ _ F => F.binds fun _ _ _ _ _ _ us hl => match us, hl with | [_, _], _ => rfl)
  have G_ok_is_letters := mk1 (P := P) (w := w) (base := base) (ps := ["value"]) (mkF X G c 3 (x := "is_letters") (st := s_is_letters) rfl rfl rfl) (fun _ _ F => ok_is_letters F T G_ok_are_small) (fun _ _ F => F.binds fun _ _ _ _ _ _ us hl => match us, hl with | [_], _ => rfl)
  have G_ok_require_letters := mk1 (P := P) (w := w) (base := base) (ps := ["value"]) (mkF X G c 5 (x := "require_letters") (st := s_require_letters) rfl rfl rfl) (fun _ _ F => ok_require_letters F T G_ok_is_letters) (fun _ _ F => F.binds fun _ _ _ _ _ _ us hl => match us, hl with | [_], _ => rfl)
  have G_ok_are_states := mk1 (P := P) (w := w) (base := base) (ps := ["many", "value"]) (mkF X G c 6 (x := "are_states") (st := s_are_states) rfl rfl rfl) (fun _ _ F => ok_are_states F T G_ok_is_integer_within) (fun _ _ F => F.binds fun _ _ _ _ _ _ us hl => match us, hl with | [_, _], _ => rfl)
  have G_ok_is_state_set := mk1 (P := P) (w := w) (base := base) (ps := ["many", "value"]) (mkF X G c 8 (x := "is_state_set") (st := s_is_state_set) rfl rfl rfl) (fun _ _ F => ok_is_state_set F T G_ok_are_states) (fun _ _ F => F.binds fun _ _ _ _ _ _ us hl => match us, hl with | [_, _], _ => rfl)
  have G_ok_are_moves := mk1 (P := P) (w := w) (base := base) (ps := ["letters", "value"]) (mkF X G c 7 (x := "are_moves") (st := s_are_moves) rfl rfl rfl) (fun _ _ F => ok_are_moves F T G_ok_are_states) (fun _ _ F => F.binds fun _ _ _ _ _ _ us hl => match us, hl with | [_, _], _ => rfl)
  have G_ok_says := mk1 (P := P) (w := w) (base := base) (ps := ["reader", "state"]) (mkF X G c 10 (x := "says") (st := s_says) rfl rfl rfl) (fun _ _ F => ok_says F T) (fun _ _ F => F.binds fun _ _ _ _ _ _ us hl => match us, hl with | [_, _], _ => rfl)
  have G_ok_state_behind := mk1 (P := P) (w := w) (base := base) (ps := ["reader", "state", "text"]) (mkF X G c 9 (x := "state_behind") (st := s_state_behind) rfl rfl rfl) (fun _ _ F => ok_state_behind F T) (fun _ _ F => F.binds fun _ _ _ _ _ _ us hl => match us, hl with | [_, _, _], _ => rfl)
  have G_ok_require_reader := mk1 (P := P) (w := w) (base := base) (ps := ["value"]) (mkF X G c 12 (x := "require_reader") (st := s_require_reader) rfl rfl rfl) (fun _ _ F => ok_require_reader F T) (fun _ _ F => F.binds fun _ _ _ _ _ _ us hl => match us, hl with | [_], _ => rfl)
  obtain ⟨fd_RL, F_RL⟩ := FRL
  have RL : RdLen P w K mg base (He.ga K "Reader") := ⟨_, _, (He.meth_ok (c.fact 98 (f := .meth "Reader" "__len__") rfl)).at_, (He.meth_ok (c.fact 98 (f := .meth "Reader" "__len__") rfl)).fn, ok_len F_RL T, (F_RL.binds fun _ _ _ _ _ _ us hl => match us, hl with | [_], _ => rfl)⟩
  obtain ⟨fd_RM, F_RM⟩ := FRM
  have RM : RdMk P w K mg base (He.ga K "Reader") := ⟨_, _, He.mkr_ok (c.fact 92 (f := .mkr "Reader") rfl), ok_init F_RM T G_ok_require_letters G_ok_are_moves G_ok_is_state_set, (F_RM.binds fun _ _ _ _ _ _ us hl => match us, hl with | [_, _, _, _], _ => rfl), T.mgReader⟩
  have G_ok_reader_from := mk1 (P := P) (w := w) (base := base) (ps := ["reader", "start"]) (mkF X G c 11 (x := "reader_from") (st := s_reader_from) rfl rfl rfl) (fun _ _ F => ok_reader_from F T RM) (fun _ _ F => F.binds fun _ _ _ _ _ _ us hl => match us, hl with | [_, _], _ => rfl)
  have G_ok_numbers_of := mk1 (P := P) (w := w) (base := base) (ps := ["rows"]) (mkF X G c 13 (x := "numbers_of") (st := s_numbers_of) rfl rfl rfl) (fun _ _ F => ok_numbers_of F T) (fun _ _ F => F.binds fun _ _ _ _ _ _ us hl => match us, hl with | [_], _ => rfl)
  have G_ok_classes_of := mk1 (P := P) (w := w) (base := base) (ps := ["reader"]) (mkF X G c 14 (x := "classes_of") (st := s_classes_of) rfl rfl rfl) (fun _ _ F => ok_classes_of F T RL G_ok_says G_ok_numbers_of) (fun _ _ F => F.binds fun _ _ _ _ _ _ us hl => match us, hl with | [_], _ => rfl)
  have G_ok_least_of := mk1 (P := P) (w := w) (base := base) (ps := ["reader"]) (mkF X G c 15 (x := "least_of") (st := s_least_of) rfl rfl rfl) (fun _ _ F => ok_least_of F T RM G_ok_says G_ok_reader_from G_ok_classes_of) (fun _ _ F => F.binds fun _ _ _ _ _ _ us hl => match us, hl with | [_], _ => rfl)
  have G_ok_first_texts := mk1 (P := P) (w := w) (base := base) (ps := ["reader"]) (mkF X G c 16 (x := "first_texts") (st := s_first_texts) rfl rfl rfl) (fun _ _ F => ok_first_texts F T) (fun _ _ F => F.binds fun _ _ _ _ _ _ us hl => match us, hl with | [_], _ => rfl)
  have G_ok_merge_of := mk1 (P := P) (w := w) (base := base) (ps := ["reader"]) (mkF X G c 18 (x := "merge_of") (st := s_merge_of) rfl rfl rfl) (fun _ _ F => ok_merge_of F T G_ok_least_of G_ok_first_texts) (fun _ _ F => F.binds fun _ _ _ _ _ _ us hl => match us, hl with | [_], _ => rfl)
  have G_ok_least_reader := mk1 (P := P) (w := w) (base := base) (ps := ["reader"]) (mkF X G c 17 (x := "least_reader") (st := s_least_reader) rfl rfl rfl) (fun _ _ F => ok_least_reader F T G_ok_require_reader G_ok_least_of) (fun _ _ F => F.binds fun _ _ _ _ _ _ us hl => match us, hl with | [_], _ => rfl)
  have G_ok_first_merge := mk1 (P := P) (w := w) (base := base) (ps := ["reader"]) (mkF X G c 19 (x := "first_merge") (st := s_first_merge) rfl rfl rfl) (fun _ _ F => ok_first_merge F T G_ok_require_reader G_ok_merge_of) (fun _ _ F => F.binds fun _ _ _ _ _ _ us hl => match us, hl with | [_], _ => rfl)
  have G_ok_is_turning := mk1 (P := P) (w := w) (base := base) (ps := ["reader"]) (mkF X G c 21 (x := "is_turning") (st := s_is_turning) rfl rfl rfl) (fun _ _ F => ok_is_turning F T G_ok_require_reader G_ok_merge_of) (fun _ _ F => F.binds fun _ _ _ _ _ _ us hl => match us, hl with | [_], _ => rfl)
  obtain ⟨fd_RI, F_RI⟩ := FRI
  have RI : RdInv P w K mg base (He.ga K "Reader") := ⟨_, _, (He.meth_ok (c.fact 97 (f := .meth "Reader" "__invert__") rfl)).at_, (He.meth_ok (c.fact 97 (f := .meth "Reader" "__invert__") rfl)).fn, ok_invert F_RI T RM RL, (F_RI.binds fun _ _ _ _ _ _ us hl => match us, hl with | [_], _ => rfl)⟩
  have G_ok_is_merge := mk1 (P := P) (w := w) (base := base) (ps := ["reader", "value"]) (mkF X G c 20 (x := "is_merge") (st := s_is_merge) rfl rfl rfl) (fun _ _ F => ok_is_merge F T G_ok_require_reader G_ok_is_text_within G_ok_state_behind G_ok_least_of) (fun _ _ F => F.binds fun _ _ _ _ _ _ us hl => match us, hl with | [_, _], _ => rfl)
  have G_ok_first_lines := mk1 (P := P) (w := w) (base := base) (ps := ["_law_plain"]) (mkF X G c 22 (x := "_law_first_lines") (st := s__law_first_lines) rfl rfl rfl) (fun _ _ F => ok_first_lines F T) (fun _ _ F => F.binds fun _ _ _ _ _ _ us hl => match us, hl with | [_], _ => rfl)
  have G_ok_kin := mk1 (P := P) (w := w) (base := base) (ps := ["_law_plain"]) (mkF X G c 23 (x := "_law_kin") (st := s__law_kin) rfl rfl rfl) (fun _ _ F => ok_kin F T) (fun _ _ F => F.binds fun _ _ _ _ _ _ us hl => match us, hl with | [_], _ => rfl)
  have G_ok_lean := mk1 (P := P) (w := w) (base := base) (ps := ["_law_plain"]) (mkF X G c 24 (x := "_law_lean") (st := s__law_lean) rfl rfl rfl) (fun _ _ F => ok_lean F T G_ok_kin G_ok_first_lines) (fun _ _ F => F.binds fun _ _ _ _ _ _ us hl => match us, hl with | [_], _ => rfl)
  have G_ok_merge_there := mk1 (P := P) (w := w) (base := base) (ps := ["_law_plain"]) (mkF X G c 25 (x := "_law_merge_there") (st := s__law_merge_there) rfl rfl rfl) (fun _ _ F => ok_merge_there F T G_ok_lean) (fun _ _ F => F.binds fun _ _ _ _ _ _ us hl => match us, hl with | [_], _ => rfl)
  have G_ok_cup := mk1 (P := P) (w := w) (base := base) (ps := ["_law_script", "_law_at"]) (mkF X G c 26 (x := "_law_cup") (st := s__law_cup) rfl rfl rfl) (fun _ _ F => ok_cup F T) (fun _ _ F => F.binds fun _ _ _ _ _ _ us hl => match us, hl with | [_, _], _ => rfl)
  have G_ok_bit := mk1 (P := P) (w := w) (base := base) (ps := ["_law_cup_here", "_law_much"]) (mkF X G c 27 (x := "_law_bit") (st := s__law_bit) rfl rfl rfl) (fun _ _ F => ok_bit F T) (fun _ _ F => F.binds fun _ _ _ _ _ _ us hl => match us, hl with | [_, _], _ => rfl)
  have G_ok_pick := mk1 (P := P) (w := w) (base := base) (ps := ["_law_cup_here", "_law_items"]) (mkF X G c 28 (x := "_law_pick") (st := s__law_pick) rfl rfl rfl) (fun _ _ F => ok_pick F T G_ok_bit) (fun _ _ F => F.binds fun _ _ _ _ _ _ us hl => match us, hl with | [_, _], _ => rfl)
  have G_ok_signs := mk1 (P := P) (w := w) (base := base) (ps := ["_law_cup_here"]) (mkF X G c 30 (x := "_law_signs") (st := s__law_signs) rfl rfl rfl) (fun _ _ F => ok_signs F T G_ok_pick) (fun _ _ F => F.binds fun _ _ _ _ _ _ us hl => match us, hl with | [_], _ => rfl)
  have G_ok_line := mk1 (P := P) (w := w) (base := base) (ps := ["_law_cup_here", "_law_signs_here", "_law_most"]) (mkF X G c 31 (x := "_law_line") (st := s__law_line) rfl rfl rfl) (fun _ _ F => ok_line F T G_ok_bit G_ok_pick) (fun _ _ F => F.binds fun _ _ _ _ _ _ us hl => match us, hl with | [_, _, _], _ => rfl)
  have G_ok_some_of := mk1 (P := P) (w := w) (base := base) (ps := ["_law_cup_here", "_law_many"]) (mkF X G c 32 (x := "_law_some_of") (st := s__law_some_of) rfl rfl rfl) (fun _ _ F => ok_some_of F T G_ok_bit) (fun _ _ F => F.binds fun _ _ _ _ _ _ us hl => match us, hl with | [_, _], _ => rfl)
  have G_ok_any_ways := mk1 (P := P) (w := w) (base := base) (ps := ["_law_cup_here", "_law_signs_here", "_law_many"]) (mkF X G c 33 (x := "_law_any_ways") (st := s__law_any_ways) rfl rfl rfl) (fun _ _ F => ok_any_ways F T G_ok_bit) (fun _ _ F => F.binds fun _ _ _ _ _ _ us hl => match us, hl with | [_, _, _], _ => rfl)
  have G_ok_dealt := mk1 (P := P) (w := w) (base := base) (ps := ["_law_cup_here", "_law_items"]) (mkF X G c 29 (x := "_law_dealt") (st := s__law_dealt) rfl rfl rfl) (fun _ _ F => ok_dealt F T G_ok_bit) (fun _ _ F => F.binds fun _ _ _ _ _ _ us hl => match us, hl with | [_, _], _ => rfl)
  have G_ok_turning_ways := mk1 (P := P) (w := w) (base := base) (ps := ["_law_cup_here", "_law_signs_here", "_law_many"]) (mkF X G c 34 (x := "_law_turning_ways") (st := s__law_turning_ways) rfl rfl rfl) (fun _ _ F => ok_turning_ways F T G_ok_dealt) (fun _ _ F => F.binds fun _ _ _ _ _ _ us hl => match us, hl with | [_, _, _], _ => rfl)
  have G_ok_ring_ways := mk1 (P := P) (w := w) (base := base) (ps := ["_law_cup_here", "_law_signs_here", "_law_many"]) (mkF X G c 35 (x := "_law_ring_ways") (st := s__law_ring_ways) rfl rfl rfl) (fun _ _ F => ok_ring_ways F T G_ok_bit) (fun _ _ F => F.binds fun _ _ _ _ _ _ us hl => match us, hl with | [_, _, _], _ => rfl)
  have G_ok_pair_ways := mk1 (P := P) (w := w) (base := base) (ps := ["_law_cup_here", "_law_signs_here", "_law_many"]) (mkF X G c 36 (x := "_law_pair_ways") (st := s__law_pair_ways) rfl rfl rfl) (fun _ _ F => ok_pair_ways F T G_ok_bit) (fun _ _ F => F.binds fun _ _ _ _ _ _ us hl => match us, hl with | [_, _, _], _ => rfl)
  have G_ok_turner := mk1 (P := P) (w := w) (base := base) (ps := ["_law_cup_here", "_law_signs_here"]) (mkF X G c 37 (x := "_law_turner") (st := s__law_turner) rfl rfl rfl) (fun _ _ F => ok_turner F T G_ok_bit G_ok_pick G_ok_turning_ways G_ok_ring_ways G_ok_pair_ways G_ok_some_of) (fun _ _ F => F.binds fun _ _ _ _ _ _ us hl => match us, hl with | [_, _], _ => rfl)
  have G_ok_plain_reader := mk1 (P := P) (w := w) (base := base) (ps := ["_law_cup_here", "_law_signs_here"]) (mkF X G c 38 (x := "_law_plain_reader") (st := s__law_plain_reader) rfl rfl rfl) (fun _ _ F => ok_plain_reader F T G_ok_bit G_ok_turner G_ok_any_ways G_ok_some_of) (fun _ _ F => F.binds fun _ _ _ _ _ _ us hl => match us, hl with | [_, _], _ => rfl)
  have G_ok_made_reader := mk1 (P := P) (w := w) (base := base) (ps := ["_law_plain"]) (mkF X G c 40 (x := "_law_made_reader") (st := s__law_made_reader) rfl rfl rfl) (fun _ _ F => ok_made_reader F T RM) (fun _ _ F => F.binds fun _ _ _ _ _ _ us hl => match us, hl with | [_], _ => rfl)
  have G_ok_read := mk1 (P := P) (w := w) (base := base) (ps := ["_law_plain", "_law_at", "_law_line_here"]) (mkF X G c 39 (x := "_law_read") (st := s__law_read) rfl rfl rfl) (fun _ _ F => ok_read F T) (fun _ _ F => F.binds fun _ _ _ _ _ _ us hl => match us, hl with | [_, _, _], _ => rfl)
  have G_ok_is_due := mk1 (P := P) (w := w) (base := base) (ps := ["_law_plain", "_law_lean_here", "_law_value"]) (mkF X G c 41 (x := "_law_is_due") (st := s__law_is_due) rfl rfl rfl) (fun _ _ F => ok_is_due F T G_ok_read) (fun _ _ F => F.binds fun _ _ _ _ _ _ us hl => match us, hl with | [_, _, _], _ => rfl)
  have G_ok_near := mk1 (P := P) (w := w) (base := base) (ps := ["_law_cup_here", "_law_plain", "_law_due"]) (mkF X G c 42 (x := "_law_near") (st := s__law_near) rfl rfl rfl) (fun _ _ F => ok_near F T G_ok_line G_ok_pick) (fun _ _ F => F.binds fun _ _ _ _ _ _ us hl => match us, hl with | [_, _, _], _ => rfl)
  have G_ok_cell_right := mkG (P := P) (w := w) (base := base) (ps := ["_law_cup_here"]) (mkF X G c 43 (x := "_law_cell_right") (st := s__law_cell_right) rfl rfl rfl) (fun _ _ F => ok_cell_right F T RI G_ok_plain_reader G_ok_signs G_ok_made_reader G_ok_merge_there G_ok_lean G_ok_first_merge G_ok_is_turning G_ok_least_reader G_ok_is_merge G_ok_near G_ok_is_due) (fun _ _ F => F.binds fun _ _ _ _ _ _ us hl => match us, hl with | [_], _ => rfl)
  exact ok_law F T RM G_ok_cup G_ok_cell_right G_ok_first_merge G_ok_is_turning G_ok_is_merge
end
end K29
open PySem PySem.W PySem.Calls PyProof.Rows
theorem PySem.Challenge.cw_whatcounts_k29_whole_merges_holds : PySem.Challenge.rw_whatcounts_k29_whole_merges.Holds := by
  w_on; o_law
  refine HandSHeadRun.head_any (r := OpenLaw.row PySem.Challenge.rw_whatcounts_k29_whole_merges) (q := view (OpenLaw.row PySem.Challenge.rw_whatcounts_k29_whole_merges).prog [65]) (H := K29.hk) (ob := K29.ob) (M := 6000) (loose := K29.loose29) (d := HandSHeadRun.topDef (OpenLaw.row PySem.Challenge.rw_whatcounts_k29_whole_merges).prog 65) (kwd := []) K29.ob_eq
    (by kernel_rfl) (fun s => by kernel_rfl) K29.run29 (by kernel_rfl) (by kernel_rfl) (by kernel_rfl) (by rfl) (by first | assumption | decide +kernel) (by decide +kernel) ⟨rfl, rfl, rfl, rfl, rfl, by decide +kernel⟩ ?hw ?hc
  case hw => w_witness2
  case hc =>
    refine K29.walk_ofG (l := PySem.Challenge.rw_whatcounts_k29_whole_merges) (n := 63) (k := 12) (x := "_law_script") rfl (by decide) (by kernel_rfl) ⟨rfl, by decide, by decide⟩ ?F
    intro w mg fa h Y G hmg0
    obtain ⟨K, KX, c⟩ := Y
    have hmg : mg ("law" : PySem.Str) = some (.ref fa) := by
      have e : (HandSHeadRun.topDef (OpenLaw.row PySem.Challenge.rw_whatcounts_k29_whole_merges).prog 65).name = ("law" : PySem.Str) := by kernel_rfl
      rw [← e]
      exact hmg0
    obtain ⟨fd, hb, hF⟩ := K29.facts29 (P := (PySem.Challenge.rw_whatcounts_k29_whole_merges).prog) (w := w) KX G hmg c
    exact ⟨K, fd, K29.sp_law K, KX, hb, fun H a ns hl hS => ⟨a, ns, rfl, hS, Nat.le_trans hl (by decide), fun _ => rfl⟩, hF⟩
