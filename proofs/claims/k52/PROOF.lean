import PyProof.Rows.All
import HandS.ForMost
import HandS.Sort
import HandS.SortOrd
import HandS.SortRule
import HandS.SortInts
import HandS.TupSets
import HandS.NamedTupSort
import HandS.Set
import HandS.SetFor
import HandS.Strs
import HandS.RepeatKit
import HandS.MapObj
import HandS.Walk
import KE.GoesMore
import KE.GoesEnum
import HandS.FltList
import PyProof.MinMaxWalk
import HandS.List
import PySem.Challenge.RW_sparetrees_k52_whole_least_lots_that_sto
import HandS.Defaults
import HandS.HeadHook1
import HandS.HeadHook2
import HandS.ForExc
import HandS.IsInst
import HandS.ExcInit
import HandS.TupAny
import HandS.ExcIs
import HandS.ExcField
import HandS.Zip
import KE.KExcIs
import HandS.Flt
import HandS.Style
import HandS.Conv
import HandS.Lambda
import HandS.TryOnly
import HandS.HeadHook4
import HandS.Head0
import HandS.Head1
import HandS.Head2
import HandS.Head3
import HandS.HeadEnd
import HandS.HeadHook3
import HandS.HeadWalk
import KE.KStateDown
section
set_option autoImplicit false
set_option linter.all false
/-! Sparetrees, the plain law: trees, ways. -/
namespace Sp
abbrev Lk := Nat × Nat
def lk (L : List Lk) (i : Nat) : Lk := L.getD i (0, 0)
theorem lk_of {L : List Lk} {i : Nat} {q : Lk} (h : L[i]? = some q) : lk L i = q := by
  unfold lk; rw [List.getD_eq_getElem?_getD, h]; rfl
theorem lk_app {L : List Lk} {M : List Lk} {i : Nat} (h : i < L.length) : lk (L ++ M) i = lk L i := by
  unfold lk; rw [List.getD_eq_getElem?_getD, List.getD_eq_getElem?_getD, List.getElem?_append_left h]
theorem lk_get {L : List Lk} {i : Nat} (h : i < L.length) : L[i]? = some (lk L i) := by
  rw [lk_of (List.getElem?_eq_getElem h), List.getElem?_eq_getElem h]
theorem lk_mem {L : List Lk} {i : Nat} (h : i < L.length) : lk L i ∈ L := List.mem_of_getElem? (lk_get h)

/-- the pairs of a tree, with a rank -/
structure Tr (n r : Nat) (ps : List Lk) (d : Nat → Nat) : Prop where
  nd : (ps.map Prod.snd).Nodup
  all : ∀ p, p < n → p ≠ r → p ∈ ps.map Prod.snd
  snd : ∀ q ∈ ps, q.2 < n ∧ q.2 ≠ r
  fst : ∀ q ∈ ps, q.1 < n
  len : ps.length + 1 = n
  d0 : d r = 0
  dS : ∀ q ∈ ps, d q.2 = d q.1 + 1
  dB : ∀ p, p < n → d p < n
theorem Tr.perm {n r : Nat} {ps qs : List Lk} {d : Nat → Nat} (h : ps.Perm qs) (t : Tr n r ps d) : Tr n r qs d where
  nd := (h.map _).nodup_iff.mp t.nd
  all := fun p h1 h2 => (h.map _).mem_iff.mp (t.all p h1 h2)
  snd := fun q hq => t.snd q (h.mem_iff.mpr hq)
  fst := fun q hq => t.fst q (h.mem_iff.mpr hq)
  len := by rw [← h.length_eq]; exact t.len
  d0 := t.d0
  dS := fun q hq => t.dS q (h.mem_iff.mpr hq)
  dB := t.dB
/-- a tree, by its links' numbers -/
def IsT (n r : Nat) (L : List Lk) (t : List Nat) : Prop := ∃ d, Tr n r (t.map (lk L)) d

/-! ### the link to a place; the way -/
def into (L : List Lk) (t : List Nat) (p : Nat) : List Nat := t.filter (fun i => (lk L i).2 == p)
def up (L : List Lk) (t : List Nat) (p : Nat) : Nat := (into L t p).headD 0
theorem up_spec {n r : Nat} {L : List Lk} {t : List Nat} {d : Nat → Nat} (T : Tr n r (t.map (lk L)) d) {p : Nat} (hp : p < n) (hr : p ≠ r) :
    (∃ rest, into L t p = up L t p :: rest) ∧ up L t p ∈ t ∧ (lk L (up L t p)).2 = p ∧ (lk L (up L t p)).1 < n ∧ d p = d (lk L (up L t p)).1 + 1 := by
  have h1 := T.all p hp hr
  rw [List.map_map, List.mem_map] at h1
  obtain ⟨i, hi, e⟩ := h1
  have hm : i ∈ into L t p := List.mem_filter.mpr ⟨hi, by simpa using e⟩
  have hu : ∃ rest, into L t p = up L t p :: rest := by
    unfold up
    cases h : into L t p with
    | nil => rw [h] at hm; cases hm
    | cons a b => exact ⟨b, rfl⟩
  obtain ⟨rest, hr'⟩ := hu
  have hm2 : up L t p ∈ into L t p := by rw [hr']; exact List.mem_cons_self
  obtain ⟨h2, h3⟩ := List.mem_filter.mp hm2
  have h4 : (lk L (up L t p)).2 = p := by simpa using h3
  have h5 : lk L (up L t p) ∈ t.map (lk L) := List.mem_map.mpr ⟨_, h2, rfl⟩
  refine ⟨⟨rest, hr'⟩, h2, h4, T.fst _ h5, ?_⟩
  have := T.dS _ h5
  rw [h4] at this
  exact this
def wayN (L : List Lk) (t : List Nat) (r : Nat) : Nat → Nat → List Nat
  | 0, _ => []
  | k + 1, p => if p = r then [] else wayN L t r k (lk L (up L t p)).1 ++ [up L t p]
theorem wayN_root {L : List Lk} {t : List Nat} {r k : Nat} : wayN L t r k r = [] := by
  cases k <;> simp [wayN]
theorem wayN_eq {n r : Nat} {L : List Lk} {t : List Nat} {d : Nat → Nat} (T : Tr n r (t.map (lk L)) d) :
    ∀ (k j p : Nat), p < n → d p ≤ k → d p ≤ j → wayN L t r k p = wayN L t r j p := by
  intro k
  induction k with
  | zero =>
    intro j p hp h0 _
    by_cases e : p = r
    · subst e; rw [wayN_root, wayN_root]
    · obtain ⟨_, _, _, _, h5⟩ := up_spec T hp e
      omega
  | succ k ih =>
    intro j p hp h0 h1
    by_cases e : p = r
    · subst e; rw [wayN_root, wayN_root]
    · obtain ⟨_, _, _, h4, h5⟩ := up_spec T hp e
      cases j with
      | zero => omega
      | succ j =>
        simp only [wayN, if_neg e]
        rw [ih j _ h4 (by omega) (by omega)]
theorem wayN_len {n r : Nat} {L : List Lk} {t : List Nat} {d : Nat → Nat} (T : Tr n r (t.map (lk L)) d) :
    ∀ (k p : Nat), p < n → d p ≤ k → (wayN L t r k p).length = d p := by
  intro k
  induction k with
  | zero =>
    intro p hp h0
    by_cases e : p = r
    · subst e; rw [wayN_root, T.d0]; rfl
    · obtain ⟨_, _, _, _, h5⟩ := up_spec T hp e
      omega
  | succ k ih =>
    intro p hp h0
    by_cases e : p = r
    · subst e; rw [wayN_root, T.d0]; rfl
    · obtain ⟨_, _, _, h4, h5⟩ := up_spec T hp e
      simp only [wayN, if_neg e]
      rw [List.length_append, ih _ h4 (by omega)]
      simp; omega
/-- the way to a place in a tree -/
def way (n r : Nat) (L : List Lk) (t : List Nat) (p : Nat) : List Nat := wayN L t r n p
theorem way_root {n r : Nat} {L : List Lk} {t : List Nat} : way n r L t r = [] := wayN_root
structure WayStep (n r : Nat) (L : List Lk) (t : List Nat) (p : Nat) : Prop where
  fil : ∃ rest, into L t p = up L t p :: rest
  mem : up L t p ∈ t
  snd : (lk L (up L t p)).2 = p
  lt : (lk L (up L t p)).1 < n
  eq : way n r L t p = way n r L t (lk L (up L t p)).1 ++ [up L t p]
theorem way_step {n r : Nat} {L : List Lk} {t : List Nat} {p : Nat} (T : IsT n r L t) (hp : p < n) (hr : p ≠ r) : WayStep n r L t p := by
  obtain ⟨d, T⟩ := T
  obtain ⟨h1, h2, h3, h4, h5⟩ := up_spec T hp hr
  refine ⟨h1, h2, h3, h4, ?_⟩
  unfold way
  cases n with
  | zero => omega
  | succ n =>
    have h6 := T.dB p hp
    have e : wayN L t r (n + 1) p = wayN L t r n (lk L (up L t p)).1 ++ [up L t p] := by
      conv => lhs; unfold wayN
      rw [if_neg hr]
    rw [e, wayN_eq T n (n + 1) _ h4 (by omega) (by omega)]
theorem way_lt {n r : Nat} {L : List Lk} {t : List Nat} {p : Nat} (T : IsT n r L t) (hp : p < n) : (way n r L t p).length < n := by
  obtain ⟨d, T⟩ := T
  have := T.dB p hp
  unfold way
  rw [wayN_len T n p hp (by omega)]
  exact this
theorem way_ne {n r : Nat} {L : List Lk} {t : List Nat} {p : Nat} (T : IsT n r L t) (hp : p < n) (hr : p ≠ r) : way n r L t p ≠ [] := by
  rw [(way_step T hp hr).eq]; simp
theorem wayN_mem {n r : Nat} {L : List Lk} {t : List Nat} {d : Nat → Nat} (T : Tr n r (t.map (lk L)) d) : ∀ (k p : Nat), p < n → ∀ i ∈ wayN L t r k p, i ∈ t := by
  intro k
  induction k with
  | zero => intro p _ i h; cases h
  | succ k ih =>
    intro p hp i h
    by_cases e : p = r
    · subst e; rw [wayN_root] at h; cases h
    · obtain ⟨_, h2, _, h4, _⟩ := up_spec T hp e
      simp only [wayN, if_neg e] at h
      rcases List.mem_append.mp h with h | h
      · exact ih _ h4 i h
      · rw [List.mem_singleton.mp h]; exact h2
theorem way_mem {n r : Nat} {L : List Lk} {t : List Nat} {p : Nat} (T : IsT n r L t) (hp : p < n) : ∀ i ∈ way n r L t p, i ∈ t := by
  obtain ⟨d, T⟩ := T
  exact wayN_mem T n p hp
/-- whatever is closed under a tree's links and has the root has all places -/
theorem closed_all {n r : Nat} {L : List Lk} {t : List Nat} {S : Nat → Prop} (T : IsT n r L t) (h0 : S r) (hs : ∀ i ∈ t, S (lk L i).1 → S (lk L i).2) : ∀ p, p < n → S p := by
  obtain ⟨d, T⟩ := T
  have : ∀ k p, p < n → d p ≤ k → S p := by
    intro k
    induction k with
    | zero =>
      intro p hp h
      by_cases e : p = r
      · subst e; exact h0
      · obtain ⟨_, _, _, _, h5⟩ := up_spec T hp e; omega
    | succ k ih =>
      intro p hp h
      by_cases e : p = r
      · subst e; exact h0
      · obtain ⟨_, h2, h3, h4, h5⟩ := up_spec T hp e
        have := hs _ h2 (ih _ h4 (by omega))
        rw [h3] at this; exact this
  exact fun p hp => this _ p hp (Nat.le_refl _)
theorem erase_perm {α : Type} {l : List α} {j : Nat} (h : j < l.length) : (l[j] :: l.eraseIdx j).Perm l := by
  rw [List.eraseIdx_eq_take_drop_succ]
  refine (List.perm_middle (a := l[j]) (l₁ := l.take j) (l₂ := l.drop (j + 1))).symm.trans ?_
  rw [← List.drop_eq_getElem_cons h, List.take_append_drop]
/-! ### a tree grown: the root and the places, each one's pair begins at one that is there -/
structure Gro (n r : Nat) (left there : List Nat) (ps : List Lk) : Prop where
  perm : (left ++ there).Perm (List.range n)
  there_eq : there = r :: ps.map Prod.snd
  rank : ∃ d : Nat → Nat, d r = 0 ∧ (∀ q ∈ ps, d q.2 = d q.1 + 1) ∧ (∀ p ∈ there, d p < there.length)
  fst : ∀ q ∈ ps, q.1 ∈ there
theorem gro_start {n r : Nat} (hr : r < n) : Gro n r ((List.range n).filter (· != r)) [r] [] where
  perm := by
    have h1 : (List.range n).Nodup := List.nodup_range
    refine (List.perm_ext_iff_of_nodup ?_ h1).mpr fun a => ?_
    · refine List.nodup_append.mpr ⟨h1.sublist List.filter_sublist, by simp, ?_⟩
      intro a ha b hb
      have := (List.mem_filter.mp ha).2
      rw [List.mem_singleton.mp hb]
      simpa using this
    · simp only [List.mem_append, List.mem_filter, List.mem_range, List.mem_singleton]
      constructor
      · rintro (h | h)
        · exact h.1
        · omega
      · intro h
        by_cases e : a = r
        · exact .inr e
        · exact .inl ⟨h, by simpa using e⟩
  there_eq := rfl
  rank := ⟨fun _ => 0, rfl, fun _ h => (by cases h), fun p hp => by simp⟩
  fst := fun _ h => (by cases h)
theorem gro_step {n r : Nat} {left there : List Nat} {ps : List Lk} (g : Gro n r left there ps) {j p b : Nat} (hj : left[j]? = some p) (hb : b ∈ there) : Gro n r (left.eraseIdx j) (there ++ [p]) (ps ++ [(b, p)]) := by
  have hlt : j < left.length := (List.getElem?_eq_some_iff.mp hj).1
  have hperm : (p :: left.eraseIdx j).Perm left := by
    have e : left[j] = p := (List.getElem?_eq_some_iff.mp hj).2
    rw [← e]; exact erase_perm hlt
  have hnd : (left ++ there).Nodup := g.perm.nodup_iff.mpr List.nodup_range
  have hpl : p ∈ left := List.mem_of_getElem? hj
  have hpt : p ∉ there := fun h => (List.nodup_append.mp hnd).2.2 p hpl p h rfl
  refine ⟨?_, ?_, ?_, ?_⟩
  · refine List.Perm.trans ?_ g.perm
    rw [← List.append_assoc]
    refine List.Perm.trans (List.perm_append_comm (l₁ := left.eraseIdx j ++ there) (l₂ := [p])) ?_
    exact (hperm.append_right there)
  · rw [g.there_eq]; simp
  · obtain ⟨d, h0, hS, hB⟩ := g.rank
    have hrt : r ∈ there := by rw [g.there_eq]; exact List.mem_cons_self
    have hst : ∀ q ∈ ps, q.2 ∈ there := fun q hq => by rw [g.there_eq]; exact List.mem_cons_of_mem _ (List.mem_map.mpr ⟨q, hq, rfl⟩)
    have ne : ∀ x ∈ there, x ≠ p := fun x hx e => hpt (e ▸ hx)
    refine ⟨fun x => if x = p then d b + 1 else d x, ?_, ?_, ?_⟩
    · simp only [if_neg (ne r hrt)]; exact h0
    · intro q hq
      rcases List.mem_append.mp hq with h | h
      · simp only [if_neg (ne _ (hst q h)), if_neg (ne _ (g.fst q h))]
        exact hS q h
      · rw [List.mem_singleton.mp h]
        simp only [if_neg (ne _ hb), if_true]
    · intro x hx
      rw [List.length_append]
      rcases List.mem_append.mp hx with h | h
      · simp only [if_neg (ne _ h)]
        have := hB x h
        simp; omega
      · rw [List.mem_singleton.mp h]
        have := hB b hb
        simp; omega
  · intro q hq
    rcases List.mem_append.mp hq with h | h
    · exact List.mem_append_left _ (g.fst q h)
    · rw [List.mem_singleton.mp h]; exact List.mem_append_left _ hb
theorem gro_end {n r : Nat} {there : List Nat} {ps : List Lk} (g : Gro n r [] there ps) : ∃ d, Tr n r ps d := by
  obtain ⟨d, h0, hS, hB⟩ := g.rank
  have hp : there.Perm (List.range n) := by simpa using g.perm
  have hnd : there.Nodup := hp.nodup_iff.mpr List.nodup_range
  have hlt : ∀ x, x ∈ there ↔ x < n := fun x => by rw [hp.mem_iff]; exact List.mem_range
  have hlen : there.length = n := by rw [hp.length_eq]; simp
  have e := g.there_eq
  have hnd2 : (r :: ps.map Prod.snd).Nodup := e ▸ hnd
  have hsn : ∀ q ∈ ps, q.2 ∈ ps.map Prod.snd := fun q hq => List.mem_map.mpr ⟨q, hq, rfl⟩
  refine ⟨d, (List.nodup_cons.mp hnd2).2, fun p hp hr => ?_, fun q hq => ⟨?_, ?_⟩, fun q hq => (hlt _).mp (g.fst q hq), ?_, h0, hS, fun p hp => ?_⟩
  · have := (hlt p).mpr hp
    rw [e] at this
    rcases List.mem_cons.mp this with h | h
    · exact absurd h hr
    · exact h
  · refine (hlt _).mp ?_
    rw [e]; exact List.mem_cons_of_mem _ (hsn q hq)
  · intro h
    exact (List.nodup_cons.mp hnd2).1 (h ▸ hsn q hq)
  · rw [← hlen, e]; simp
  · have := hB p ((hlt p).mpr hp)
    omega
end Sp
end

section
set_option Elab.async false
set_option linter.all false
set_option maxRecDepth 100000
set_option maxHeartbeats 4000000
/-! Sparetrees: further rules of the layer: sorted of tuples of ints (any number), sorted of a tuple, extend by a tuple. -/
namespace Sp
open PySem PySem.Spec PyProof.Rows L2 Srt
section
variable {prog : Program} {w : World} {A : Around} {E : Value → Shared → Prop} {s : Shared} {Q : Bool → Shared → Prop}
theorem lex_any {b fin : Bool} {xs ys : List Value} {ns ms : List Int} (i : Nat) (hx : IntsAre xs ns) (hy : IntsAre ys ms) (hf : fin = decide (ns.length < ms.length))
    (h : Q (HT.lexLt ns ms) s) : PySem.W.KatLex prog w A b fin Q (xs.zip ys) i s := by
  induction hx generalizing ys ms i with
  | nil =>
    cases hy with
    | nil =>
      have e : fin = false := by rw [hf]; rfl
      rw [HT.lexLt_nil_nil, ← e] at h
      exact PySem.W.kat_nil h
    | cons q u hy =>
      have e : fin = true := by rw [hf]; simp
      rw [HT.lexLt_nil_cons, ← e] at h
      exact PySem.W.kat_nil h
  | @cons p t xs ns hx ih =>
    cases hy with
    | nil =>
      have e : fin = false := by rw [hf]; simp
      rw [HT.lexLt_cons_nil, ← e] at h
      exact PySem.W.kat_nil h
    | @cons q u ys ms hy =>
      have hf' : fin = decide (ns.length < ms.length) := by
        rw [hf]; simp
      show PySem.W.KatLex prog w A b fin Q ((Value.int p t, Value.int q u) :: xs.zip ys) i s
      refine PySem.W.kat_cons (wpAny_eqBool_int ?_)
      rw [HT.lexLt_cons] at h
      by_cases e : p = q
      · subst e
        rw [beq_self_eq_true]
        rw [if_pos rfl] at h
        refine PySem.W.kat_yes ?_
        first
          | exact ih (i + 1) hy hf' h
          | exact ih _ _ (i + 1) hy hf' h
      · rw [show (p == q) = false from beq_eq_false_iff_ne.mpr e]
        rw [if_neg e] at h
        exact PySem.W.kat_no (TS.oneLt_ints _ h)
/-- what is sorted: tuples of ints, none empty -/
def TOk (h : Heap) (k : Value → List Int) (vs : List Value) : Prop := ∀ v, v ∈ vs → TS.TupInts h v (k v) ∧ 1 ≤ (k v).length
theorem TOk.keeps {h h' : Heap} {k : Value → List Int} {vs : List Value} (x : TOk h k vs) (kp : ∀ b o, h.get? b = some o → o.cls = .type "tuple" → h'.get? b = some o) : TOk h' k vs := fun v hv =>
  let ⟨t, r⟩ := x v hv; ⟨t.keeps kp, r⟩
theorem tok_firsts {h : Heap} {k : Value → List Int} : ∀ vs : List Value, TOk h k vs → ∃ fs, PySem.W.KatTups h vs fs ∧ fs.length = vs.length ∧ ∀ f, f ∈ fs → ∃ n t, f = Value.int n t
  | [], _ => ⟨[], PySem.W.KatTups.nil, rfl, fun f hf => by simp at hf⟩
  | v :: vs, x => by
    obtain ⟨fs, kt, hl, hi⟩ := tok_firsts vs fun u hu => x u (List.mem_cons_of_mem _ hu)
    obtain ⟨⟨a, xs, ev, ⟨o, ho, hc, n, hdt⟩, i⟩, hn⟩ := x v (List.mem_cons_self ..)
    obtain ⟨y, ys, e⟩ : ∃ y ys, xs.toList = y :: ys := by
      cases q : xs.toList with
      | nil =>
        rw [q] at i
        have l := i.length
        rw [List.length_nil] at l
        omega
      | cons y ys => exact ⟨y, ys, rfl⟩
    obtain ⟨m, t, hy⟩ := i.all y (by rw [e]; exact List.mem_cons_self ..)
    rw [ev]
    refine ⟨y :: fs, PySem.W.KatTups.cons ho hc hdt ?_ kt, by simp [hl], ?_⟩
    · have z := congrArg (fun l : List Value => l[0]?) e
      simpa using z
    · intro f hf
      rcases List.mem_cons.mp hf with rfl | hf
      · exact ⟨m, t, hy⟩
      · exact hi f hf
theorem tups_lt {b : Bool} {u v : Value} {ns ms : List Int} {Q : Bool → Shared → Prop} (tp : TS.TupInts s.heap u ns) (tq : TS.TupInts s.heap v ms) (h : Q (HT.lexLt ns ms) s) : wpAny (model prog w) A (keyLt' (tuples' b) u v) Q E s := by
  obtain ⟨a, xs, e1, ⟨o, ho, hc, n, hdt⟩, i⟩ := tp
  obtain ⟨a', ys, e2, ⟨o', ho', hc', n', hdt'⟩, i'⟩ := tq
  rw [e1, e2]
  refine PySem.W.kat_lt ho hdt ho' hdt' ?_
  refine lex_any 0 i i' ?_ h
  have l1 := i.length
  have l2 := i'.length
  rw [Array.length_toList] at l1 l2
  rw [l1, l2]
theorem tups_cmp {vs : List Value} {k : Value → List Int} (hp : TOk s.heap k vs) : SrtO.Cmp prog w A s (tuples' true) (fun p => p.1 ∈ vs) (SrtO.lt2 fun v u => HT.lexLt (k v) (k u)) := by
  intro p q hm hm'
  exact tups_lt (hp _ hm).1 (hp _ hm').1 ⟨rfl, rfl⟩
theorem tups_sortable {a : Addr} {vs : List Value} {k : Value → List Int} (h0 : 0 < vs.length) (hp : TOk s.heap k vs) (ha : ∀ o, s.heap.get? a = some o → o.cls ≠ .type "tuple") : SrtO.SortableO prog w A s a vs fun v u => HT.lexLt (k v) (k u) := by
  intro h' keep
  have hp' : TOk h' k vs := hp.keeps fun b o e c => keep b o (fun z => by subst z; exact ha o e c) e
  obtain ⟨fs, h1, h2, h3⟩ := tok_firsts vs hp'
  refine ⟨tuples' true, fun Q E hq => ?_, tups_cmp hp'⟩
  refine PySem.W.kat_kind (T := .type "int") h1 (by omega) (fun f hm => ?_) (by rfl) ?_
  · obtain ⟨x, t, rfl⟩ := h3 f hm
    exact PySem.W.Looks.of_pure rfl
  · have e : (Value.type "int" != Value.type "tuple") = true := by first | decide +kernel | rfl | decide
    rw [e]
    exact hq
/-! ### a tuple collected -/
theorem collect_tuple {l : Addr} {vs : List Value} {Q : List Value → Shared → Prop} (hl : IsTup s.heap l vs.toArray)
    (h : Q vs { s with heap := (s.heap.push (seqObj "list" #[] 0)).update s.heap.objs.size (Obj.mapSeq (· ++ vs.toArray)) }) (hsz : vs.length ≤ sizeLine := by size_fits) :
    wpAny (model prog w) A (collect (.ref l)) Q E s := by
  obtain ⟨o, ho, hc, n, hd⟩ := id hl
  unfold collect
  refine wpAny_bind (wpAny_runValue (codeAny_builtin entry_proto_collect' ?_))
  show wpAny _ _ (do again (.builtin "list.__iadd__" ⟨[← newList [], .ref l], []⟩)) _ _ s
  refine wpAny_bind (wpAny_newList (wpAny_pure ⟨Code.quiet_builtin _ (by decide +kernel), codeAny_builtin entry_list_iadd' ?_⟩))
  show wpAny _ _ (Builtin.List.listExtendWith (.ref s.heap.objs.size) (.ref l) (.ref s.heap.objs.size)) _ _ { s with heap := s.heap.push (seqObj "list" #[] 0) }
  unfold Builtin.List.listExtendWith
  have ho' : (s.heap.push (seqObj "list" #[] 0)).get? l = some o := Heap.get?_push_of_some _ ho
  refine wpAny_bind (wpAny_typeOf (T := "tuple") ⟨o, ho', hc⟩ ?_)
  have ht : (Value.type "tuple" == Value.type "tuple") = true := by rfl
  rw [if_pos (by rw [ht]; simp)]
  refine wpAny_bind (listItems_at ho' hd ?_)
  refine wpAny_bind (listItems_at (xs := #[]) (n := 0) (Heap.get?_push_size _ rfl) rfl ?_)
  rw [if_neg (by simp)]
  refine wpAny_bind (listUpdate_at (xs := #[]) (n := 0) (Heap.get?_push_size _ rfl) rfl ?_ (Nat.zero_le _) (by show (#[] ++ vs.toArray).size ≤ sizeLine + 1; simp only [Array.size_append, List.size_toArray, List.length_nil]; omega))
  refine wpAny_pure ?_
  show wpAny (model prog w) A (do
      let o ← load s.heap.objs.size
      match o.data with
      | .seq xs _ => pure xs.toList
      | _ => unsupported "internal:collect") Q E { s with heap := (s.heap.push (seqObj "list" #[] 0)).update s.heap.objs.size (Obj.mapSeq (· ++ vs.toArray)) }
  refine wpAny_bind (wpAny_load (get?_update_seq (Heap.get?_push_size _ rfl) _) ?_)
  show wpAny _ _ (pure ((#[] : Array Value) ++ vs.toArray).toList) Q E _
  rw [show ((#[] : Array Value) ++ vs.toArray).toList = vs by simp]
  exact wpAny_pure h
/-- sorted(t), t a tuple -/
theorem sorted_ordT {l : Addr} {vs : List Value} {ltv : Value → Value → Bool} {Q : Value → Shared → Prop} (O : SrtO.Swo ltv) (hl : IsTup s.heap l vs.toArray) (hz : vs.length ≤ sizeLine)
    (hS : 2 ≤ vs.length → ∀ (h₁ : Heap) (a : Addr), h₁.get? a = some (seqObj "list" vs.toArray 0) → (∀ b o, s.heap.get? b = some o → b ≠ a ∧ h₁.get? b = some o) → SrtO.SortableO prog w A.in1.in1 { s with heap := h₁ } a vs ltv)
    (h : ∀ out : List Value, SrtO.Srtd ltv out → SrtO.Stb ltv out vs → Q (.ref (s.heap.objs.size + 1)) { s with heap := sortedAll s.heap vs out.toArray }) :
    wpAny (model prog w) A (call (.builtin "sorted") [.ref l]) Q E s := by
  refine Calls.call_function_entry kind_sorted plain_sorted entry_sorted (args_sorted1 _) ?_
  unfold Builtin.«sorted»
  refine wpAny_bind (m := checkCount "sorted" 1 1 _) (wpAny_pure ?_)
  refine wpAny_bind (collect_tuple hl ?_ hz)
  refine wpAny_bind (wpAny_newList ?_ hz)
  have hsz : ((s.heap.push (seqObj "list" #[] 0)).update s.heap.objs.size (Obj.mapSeq (· ++ vs.toArray))).objs.size = s.heap.objs.size + 1 := by
    rw [Heap.size_update, size_push']
  have hoL : (((s.heap.push (seqObj "list" #[] 0)).update s.heap.objs.size (Obj.mapSeq (· ++ vs.toArray))).push (seqObj "list" vs.toArray 0)).get? (s.heap.objs.size + 1) = some (seqObj "list" vs.toArray 0) := by
    rw [← hsz]; exact Heap.get?_push_size _ rfl
  have keep : ∀ b o, s.heap.get? b = some o → b ≠ s.heap.objs.size + 1 ∧ (((s.heap.push (seqObj "list" #[] 0)).update s.heap.objs.size (Obj.mapSeq (· ++ vs.toArray))).push (seqObj "list" vs.toArray 0)).get? b = some o := fun b o q => by
    have hlt : b < s.heap.objs.size := Heap.lt_size q
    refine ⟨Nat.ne_of_lt (Nat.lt_succ_of_lt hlt), Heap.get?_push_of_some _ ?_⟩
    rw [Heap.get?_update_ne _ _ _ _ (Nat.ne_of_lt hlt)]
    exact Heap.get?_push_of_some _ q
  show wpAny _ _ _ _ _ { s with heap := ((s.heap.push (seqObj "list" #[] 0)).update s.heap.objs.size (Obj.mapSeq (· ++ vs.toArray))).push (seqObj "list" vs.toArray 0) }
  rw [hsz]
  refine wpAny_bind (wpAny_holding (wpAny_call_entry slot_list_sort ⟨_, hoL, rfl⟩ entry_list_sort (SrtO.list_sort_ord O hoL hz (fun h2 => hS h2 _ _ hoL keep) fun out hs hb => ⟨_, rfl, ?_⟩) (args_list_sort _)))
  exact wpAny_pure ⟨_, rfl, h out hs hb⟩
end
/-- sorted(xs), xs a list of tuples of ints, none empty: a new list of the same, ascending -/
def rSortTT (K : PySem.W.Frag) : List V → Hp → VK → Prop := fun vs H Q => ∃ (a : Addr) (xs : List V) (k : V → List Int), vs = [V.ref a] ∧ SqL K H a xs ∧ (∀ x ∈ xs, ∃ t, x = V.ref t ∧ SqT K H t ((k x).map V.int) ∧ 1 ≤ (k x).length) ∧
  ∀ (ys : List V) (p : Addr), ys.Perm xs → ys.Pairwise (fun x y => HT.lexLt (k y) (k x) = false) → H p = none → Q (.ref p) (upd H p (.lst ys))
/-- sorted(t), t a tuple of ints -/
def rSortIT (K : PySem.W.Frag) : List V → Hp → VK → Prop := fun vs H Q => ∃ (a : Addr) (ns : List Int), vs = [V.ref a] ∧ SqT K H a (ns.map V.int) ∧
  ∀ (ns' : List Int) (p : Addr), ns'.Perm ns → ns'.Pairwise (· ≤ ·) → H p = none → Q (.ref p) (upd H p (.lst (ns'.map V.int)))
/-- xs.extend(t), t a tuple -/
def rExtendT (K : PySem.W.Frag) : V → List V → Hp → VK → Prop := fun x vs H Q => ∃ l b xs zs, x = .ref l ∧ vs = [.ref b] ∧ H l = some (.lst xs) ∧ SqT K H b zs ∧ xs.length + zs.length ≤ sizeLine ∧ Q .non (upd H l (.lst (xs ++ zs)))
section
variable {X : Cx}
theorem cr_sortTT : CallR X (.builtin "sorted") (rSortTT X.K) := by
  intro pins s σ H vs us Q I r h
  obtain ⟨a, xs, k, rfl, hs, hx, q⟩ := h
  obtain ⟨its, rv, hl, hz⟩ := I.list hs
  rw [Vals.ref1 r]
  obtain ⟨e1, e2⟩ := bkV_refs rv fun x m => by
    obtain ⟨t, e, _⟩ := hx x m
    exact ⟨t, e⟩
  have htok : TOk s.heap (fun u => k (bkV u)) its := fun v hv => by
    obtain ⟨t, rfl⟩ := e2 v hv
    have hm : V.ref t ∈ xs := by rw [e1]; exact List.mem_map.mpr ⟨_, hv, rfl⟩
    obtain ⟨t', e, ht, hn⟩ := hx _ hm
    cases e
    exact ⟨tupI_raw I ht, hn⟩
  refine SrtO.sorted_ord (ltv := fun v u => HT.lexLt (k (bkV v)) (k (bkV u))) (NtL.swo_lexL _) hl.isList (by rw [← rv.length]; exact hz) (fun h2 h₁ a' ha kk => ?_) fun out h1 h2 => ?_
  · refine tups_sortable (s := { s with heap := h₁ }) (by omega) (htok.keeps fun b o e _ => (kk b o e).2) fun o e => ?_
    have e' : some o = some (seqObj "list" its.toArray 0) := e.symm.trans ha
    cases e'
    intro c
    exact absurd (Value.type.inj c) (by decide)
  · obtain ⟨ep, he'⟩ := PyProof.Rows.sortedAll_at s.heap its out.toArray
    have h3 : ∀ u ∈ out, ∃ a, u = Value.ref a := fun u hu => e2 u (h2.perm.mem_iff.mp hu)
    have hp : (out.map bkV).Perm xs := by
      rw [e1]
      exact h2.perm.map bkV
    have hlen : (out.map bkV).length ≤ sizeLine := by
      rw [hp.length_eq]
      exact hz
    refine ⟨.ref _, upd H (s.heap.objs.size + 1) (.lst (out.map bkV)), I.laid (t' := s.toks) (fun _ _ => PyProof.Rows.sortedAll_old) (Nat.le_succ _) ⟨hlen, out, ep, bkV_vals h3, he'⟩, rfl, q _ _ hp ?_ (I.hok.fresh (Nat.le_succ _))⟩
    exact List.pairwise_map.mpr h1
theorem cr_sortIT : CallR X (.builtin "sorted") (rSortIT X.K) := by
  intro pins s σ H vs us Q I r h
  obtain ⟨a, ns, rfl, hs, q⟩ := h
  obtain ⟨its, rv, hl, hz⟩ := I.tuple hs
  rw [Vals.ref1 r]
  have hi := rv.ints
  refine sorted_ordT SrtO.swo_int hl (by rw [← rv.length]; exact hz) (fun h2 h₁ a' _ _ => SrtO.ints_sortable hi h2) fun out h1 h2 => ?_
  obtain ⟨k1, k2, k3⟩ := SrtO.ints_out hi h1 h2
  obtain ⟨ep, he'⟩ := PyProof.Rows.sortedAll_at s.heap its out.toArray
  have hlen : ((out.map SrtO.iv).map V.int).length ≤ sizeLine := by
    rw [List.length_map, k2.length_eq]
    rw [List.length_map] at hz
    exact hz
  exact ⟨.ref _, upd H (s.heap.objs.size + 1) (.lst ((out.map SrtO.iv).map V.int)), I.laid (t' := s.toks) (fun _ _ => PyProof.Rows.sortedAll_old) (Nat.le_succ _) ⟨hlen, out, ep, vals_of_ints k1, he'⟩, rfl, q _ _ k2 k3 (I.hok.fresh (Nat.le_succ _))⟩
theorem mt_extendT : MtM X "list.extend" (rExtendT X.K) := by
  intro pins s σ H x vs v us Q I rx rv h
  obtain ⟨l, b, xs, zs, rfl, rfl, hH, hB, hz, q⟩ := h
  cases rx
  obtain ⟨u, rfl, ru⟩ := rv.one
  cases ru
  obtain ⟨z, its, n, r, hl, e⟩ := I.lstM hH
  obtain ⟨its2, r2, ⟨o2, e2, hc2, n2, hd2⟩, hz2⟩ := I.tuple hB
  have hsz : its.toArray.size + its2.toArray.size ≤ sizeLine := by
    rw [List.size_toArray, List.size_toArray, ← hl, ← r2.length]; omega
  have hlong : ¬ (!its.toArray.isEmpty && Builtin.List.listTooLong (its.toArray.size + its2.toArray.size)) = true := by
    rw [notLongL hsz, Bool.and_false]
    exact Bool.false_ne_true
  refine wpAny_call_entry F.slot_list_extend ⟨_, e, rfl⟩ F.entry_list_extend ?_ (F.args_list_extend_2 _ _)
  show wpAny _ _ (Builtin.List.listExtendWith (.ref l) (.ref b) .none) _ _ s
  unfold Builtin.List.listExtendWith
  refine wpAny_bind (wpAny_typeOf (T := "tuple") ⟨o2, e2, hc2⟩ ?_)
  have ht : (Value.type "tuple" == Value.type "tuple") = true := by rfl
  rw [if_pos (by rw [ht]; simp)]
  refine wpAny_bind (listItems_at e2 hd2 ?_)
  refine wpAny_bind (listItems_at (xs := its.toArray) (n := n) e rfl ?_)
  rw [if_neg hlong]
  refine wpAny_bind (listUpdate_at (xs := its.toArray) (n := n) e rfl ?_ (by omega) (by rw [Array.size_append]; omega))
  refine wpAny_pure ⟨_, rfl, ?_⟩
  refine ⟨.non, _, I.lset (its' := its ++ its2) hH e (by simp) (r.append r2) ?_, rfl, q⟩
  rw [List.length_append]
  omega
end
end Sp
end

section
set_option Elab.async false
set_option linter.all false
set_option maxRecDepth 100000
set_option maxHeartbeats 4000000
/-! Sparetrees: set(xs) of a list of ints, as the set that the layer sorts. -/
namespace Sp
open PySem PySem.Spec PyProof.Rows L2
section
variable {P : Program} {w : World} {A : Around} {E : Value → Shared → Prop} {s : Shared}
set_option maxRecDepth 100000 in
set_option maxHeartbeats 3200000 in
theorem call_set_lstI {l : Addr} {items : Array Value} (ns : List Int) {Q : Value → Shared → Prop} (hh : A.handled = none) (hl : s.heap.IsList l items) (hit : IntsAre items.toList ns) (hb : ns.length + 1 < scanBound)
    (h : ∀ (h' : Heap) (tk c : Nat), SetR w h' s.heap.objs.size (fun j => decide (j ∈ ns)) c → c ≤ ns.length → (∀ b o, s.heap.get? b = some o → h'.get? b = some o) → Q (.ref s.heap.objs.size) { s with heap := h', toks := tk }) :
    wpAny (model P w) A (call (.type "set") [.ref l]) Q E s := by
  have hisz : items.size = ns.length := by
    have q := IntsAre.length hit
    rw [Array.length_toList] at q
    exact q
  obtain ⟨c, tl, hmro⟩ := F.called_set.mro
  have hmade := F.called_set.made
  have hsub := F.called_set.sub
  refine wpAny_call (codeAny_of_tree ?_)
  show wpAny _ _ (callAny (.type "set") _) _ _ _
  refine wpAny_pure ⟨Code.quiet_builtin _ (by decide +kernel), codeAny_builtin F.entry_type_call ?_⟩
  rw [Around.under_plain (weight_type_call_type "set" [.ref l] []) rfl]
  have h1 := F.called_set.notType
  have h2 := F.called_set.canCreate
  have hct := F.typeCall_set_1 (.ref l)
  repeat (any_goals (first | assumption | wp_step))

  refine codeAny_mono (code_set_led1 (.ref l) (E := E) (Q₁ := fun obj s₁ => obj = .ref s.heap.objs.size ∧ s₁ = { s with heap := s.heap.push { cls := .type "set", dict := none, data := .set #[] 0 (.fresh 0 0 (!w.params.followText "set-order")) } }) ⟨rfl, rfl⟩) fun r s₁ hr => ?_
  cases r with
  | error e => exact hr
  | ok fl =>
    cases fl with
    | ret obj =>
      obtain ⟨rfl, rfl⟩ := hr
      have hS : (s.heap.push { cls := .type "set", dict := none, data := .set #[] 0 (.fresh 0 0 (!w.params.followText "set-order")) }).get? s.heap.objs.size = some { cls := .type "set", dict := none, data := .set #[] 0 (.fresh 0 0 (!w.params.followText "set-order")) } := Heap.get?_push_size _ rfl
      have hT : Shared.TypeIs { s with heap := s.heap.push { cls := .type "set", dict := none, data := .set #[] 0 (.fresh 0 0 (!w.params.followText "set-order")) } } (.ref s.heap.objs.size) "set" := ⟨_, hS, rfl⟩
      have hli := F.called_set.init.lookup
      have hbi := F.called_set.init.bind (.ref s.heap.objs.size)
      repeat (any_goals (first | assumption | wp_step))

      refine codeAny_mono (codeAny_call_builtin (R := wants (fun r s₂ => r = .none ∧ ∃ h' tk c, s₂ = { s with heap := h', toks := tk } ∧ SetR w h' s.heap.objs.size (fun j => decide (j ∈ ns)) c ∧ c ≤ ns.length ∧
          (∀ b o, s.heap.get? b = some o → h'.get? b = some o)) E) F.called_set.init.plain F.entry_set_init (check_set_init_1 hT ?_)) fun r₂ s₂ hr₂ => ?_
      · obtain ⟨ol, hol, hcl, nl, hdl⟩ := hl
        obtain ⟨ocls, odict, odata, oslots⟩ := ol
        simp only at hcl hdl
        subst hcl; subst hdl
        have hol' : (s.heap.push { cls := .type "set", dict := none, data := .set #[] 0 (.fresh 0 0 (!w.params.followText "set-order")) }).get? l = some { cls := .type "list", dict := odict, data := .seq items nl, slots := oslots } := Heap.get?_push_of_some _ hol
        have hsls := F.sub_list_set
        have hslf := F.sub_list_frozenset
        have hne : (Value.type "list" == Value.type "dict") = false := by decide
        have hl1 : (s.heap.push { cls := .type "set", dict := none, data := .set #[] 0 (.fresh 0 0 (!w.params.followText "set-order")) }).IsList l items := ⟨_, hol', rfl, nl, rfl⟩
        unfold Builtin.«set.__init__» noKeywords Builtin.Frozenset.updateFrom
        generalize hPI : pyIter = PI
        wp_walk
        subst hPI

        refine wpAny_pyIter_list hl1 ?_
        refine wpAny_bind (wpAny_runValue ?_)
        have hlS : l < s.heap.objs.size := Heap.lt_size hol
        have hh3 : A.in1.in1.in1.handled = none := by simp [hh]
        have hz1 : (s.heap.push { cls := .type "set", dict := none, data := .set #[] 0 (.fresh 0 0 (!w.params.followText "set-order")) }).objs.size = s.heap.objs.size + 1 := Heap.size_push ..
        have hneI : l ≠ (s.heap.push { cls := .type "set", dict := none, data := .set #[] 0 (.fresh 0 0 (!w.params.followText "set-order")) }).objs.size := by
          rw [Heap.size_push]; exact Nat.ne_of_lt (Nat.lt_succ_of_lt hlS)
        have hSf : s.heap.objs.size ∉ [(s.heap.push { cls := .type "set", dict := none, data := .set #[] 0 (.fresh 0 0 (!w.params.followText "set-order")) }).objs.size, l] := by
          rw [Heap.size_push]; simp only [List.mem_cons, List.mem_singleton, List.not_mem_nil, or_false, not_or]
          exact ⟨Nat.ne_of_lt (Nat.lt_succ_self _), Nat.ne_of_gt hlS⟩
        have hval : ∀ (i : Nat) (v : Value), items[i]? = some v → ∃ k t, ns[i]? = some k ∧ v = .int k t := fun i v hv => by
          have hi : i < ns.length := by rw [← hisz]; exact (Array.getElem?_eq_some_iff.mp hv).1
          obtain ⟨t, e⟩ := PyProof.Rows.IntsAre.int_at hit i v (by rw [Array.getElem?_toList]; exact hv)
          refine ⟨ns[i], t, List.getElem?_eq_getElem hi, ?_⟩
          rw [e, List.getD_eq_getElem?_getD, List.getElem?_eq_getElem hi] <;> rfl
        refine set_update_ints ((Walks.list hh3 _ l hneI items).toS) s.heap.objs.size
          hSf ns hisz hb hval (items.size - 0) 0 _ (by omega) (Nat.zero_le _)
          ⟨⟨_, Heap.get?_push_size _ rfl, rfl, rfl⟩, (hl1.push _)⟩ ?hS0 ?hR
        case hS0 =>
          have hget : ((s.heap.push { cls := .type "set", dict := none, data := .set #[] 0 (.fresh 0 0 (!w.params.followText "set-order")) }).push { cls := .type "list_iterator", data := .fields #[.ref l, .int 0 0] }).get? s.heap.objs.size
              = some { cls := .type "set", dict := none, data := .set #[] 0 (.fresh 0 0 (!w.params.followText "set-order")) } := Heap.get?_push_of_some _ hS
          exact ⟨0, Nat.le_refl 0, setR_new_at hget⟩
        case hR =>
          intro s' c' hm hc' hS'
          obtain ⟨h', g2, d', tk', os'⟩ := s'
          have eg : g2 = s.gens := hm.gens
          have ed : d' = s.drawn := hm.drawn
          have eo : os' = s.os := hm.os
          subst eg; subst ed; subst eo
          show wpAny _ _ _ _ _ _
          refine wpAny_pure ?_
          show wpAny _ _ (ret Value.none) _ _ _
          rw [hisz] at hc'
          refine wpAny_pure ⟨rfl, h', tk', c', rfl, hS', hc', fun b o e => ?_⟩
          have hb0 : b < s.heap.objs.size := Heap.lt_size e
          have hb1 : b ≠ s.heap.objs.size := Nat.ne_of_lt hb0
          have hb2 : b ≠ (s.heap.push { cls := .type "set", dict := none, data := .set #[] 0 (.fresh 0 0 (!w.params.followText "set-order")) }).objs.size := by
            rw [Heap.size_push]; exact Nat.ne_of_lt (Nat.lt_succ_of_lt hb0)
          exact hm.heap b o (by simp only [List.mem_cons, List.mem_singleton, List.not_mem_nil, or_false, not_or]; exact ⟨hb1, hb2⟩) (Heap.get?_push_of_some _ (Heap.get?_push_of_some _ e))

      · cases r₂ with
        | error e => exact hr₂
        | ok fl₂ =>
          cases fl₂ with
          | ret r =>
            obtain ⟨rfl, h', tk, c', rfl, hS', hc', hk'⟩ := hr₂
            repeat (any_goals (first | assumption | wp_step))
            exact h _ _ _ hS' hc' hk'
          | _ => exact hr₂.elim
    | _ => exact hr.elim
end
/-- set(xs), xs a list of ints -/
def rSetLI (K : PySem.W.Frag) (w : World) : List V → Hp → VK → Prop := fun vs H Q => ∃ (l : Addr) (ns : List Int), vs = [V.ref l] ∧ SqL K H l (ns.map V.int) ∧ ns.length ≤ 1000 ∧
  ∀ (a : Addr) (c : Nat), c ≤ ns.length → H a = none → Q (.ref a) (upd H a (SetO w a (fun j => decide (j ∈ ns)) c))
section
variable {X : Cx}
theorem cr_setLI (hc : X.calm = true) : CallR X (.type "set") (rSetLI X.K X.w) := by
  intro pins s σ H vs us Q I r h
  obtain ⟨l, ns, rfl, hs, hlen, q⟩ := h
  obtain ⟨its, rv, hl, hz⟩ := I.list hs
  rw [Vals.ref1 r]
  have hi : IntsAre its.toArray.toList ns := ints_of_vals rv
  refine call_set_lstI ns (I.ok.hd hc) hl.isList hi (by unfold scanBound; omega) fun h' tk c R1 hcn k => ?_
  have hf : H s.heap.objs.size = none := I.hok.fresh (Nat.le_refl _)
  exact ⟨.ref _, _, I.laid (t' := tk) k (Nat.le_refl _) (setO_new R1), rfl, q _ c hcn hf⟩
end
end Sp
end

section
set_option Elab.async false
set_option linter.all false
set_option maxRecDepth 100000
set_option maxHeartbeats 4000000
/-! Sparetrees: itertools.combinations over a list, as a thing that a for walks. -/
namespace SpC
open PySem PySem.Spec PyProof.Rows
open Sem (wp)
abbrev TN : String := "itertools.combinations"
theorem mro_c : mroOf (.type "itertools.combinations") = pure [.type "itertools.combinations", .type "object"] := by rw [mroOf_type]; kernel_rfl
theorem look_c : typeLookup (.type "itertools.combinations") "__new__" = pure (some (.builtin "itertools.combinations.__new__")) := by rw [typeLookup_type, builtinLookup_eq_fast]; kernel_rfl
theorem init_c : Slot "itertools.combinations" "__init__" "object.__init__" :=
  .of (owner := "object") (n := "__init__") (by rw [typeLookup_type, builtinLookup_eq_fast]; kernel_rfl) (by decide +kernel) (by decide +kernel) (by decide +kernel)
    (by first | exact .inl (by decide +kernel) | exact .inr (by decide +kernel)) (by rw [isSubtype_type]; kernel_rfl)
theorem sub_c : isSubtype (.type "itertools.combinations") (.type "itertools.combinations") = pure true := by rw [isSubtype_type]; kernel_rfl
theorem called_c : TypeCalled "itertools.combinations" "itertools.combinations.__new__" "object.__init__" :=
  ⟨by decide +kernel, by decide +kernel, ⟨_, _, mro_c⟩, madeBy_type mro_c look_c (by decide +kernel), by decide +kernel, sub_c, init_c⟩
theorem typeCall_c (a b : Value) : checkTypeCall "itertools.combinations" ⟨[a, b], []⟩ = pure () := by kernel_rfl
theorem newCall_c (a b : Value) : checkBuiltinCall "itertools.combinations.__new__" ⟨[.type "itertools.combinations", a, b], []⟩ = pure () := by kernel_rfl
theorem entry_c_new : entryFor table "itertools.combinations.__new__" = some Builtin.«itertools.combinations.__new__» := entryFor_of_tree (by kernel_rfl)
theorem iter_c : Slot "itertools.combinations" "__iter__" "itertools.combinations.__iter__" :=
  .of (owner := "itertools.combinations") (n := "__iter__") (by rw [typeLookup_type, builtinLookup_eq_fast]; kernel_rfl) (by decide +kernel) (by decide +kernel) (by decide +kernel)
    (by first | exact .inl (by decide +kernel) | exact .inr (by decide +kernel)) sub_c
theorem next_c : Slot "itertools.combinations" "__next__" "itertools.combinations.__next__" :=
  .of (owner := "itertools.combinations") (n := "__next__") (by rw [typeLookup_type, builtinLookup_eq_fast]; kernel_rfl) (by decide +kernel) (by decide +kernel) (by decide +kernel)
    (by first | exact .inl (by decide +kernel) | exact .inr (by decide +kernel)) sub_c
theorem entry_c_iter : entryFor table "itertools.combinations.__iter__" = some Builtin.«dict_keyiterator.__iter__» :=
  entryFor_alias (id' := "dict_keyiterator.__iter__") (by kernel_rfl) (by first | rfl | decide +kernel | (unfold String.splitOn; simp +decide [String.splitOnAux])) (by decide +kernel) (by kernel_rfl)
theorem entry_c_next : entryFor table "itertools.combinations.__next__" = some Builtin.«itertools.combinations.__next__» := entryFor_of_tree (by kernel_rfl)
theorem owner_c : Manifest.owners.lookup (String.ofList ['s', 'n', 'o', 'i', 't', 'a', 'n', 'i', 'b', 'm', 'o', 'c', '.', 's', 'l', 'o', 'o', 't', 'r', 'e', 't', 'i'].reverse) = some Manifest.sig_itertools_combinations := by kernel_rfl
theorem args_c_iter (a : Value) : argsOk "itertools.combinations.__iter__" ⟨[a], []⟩ := by
  unfold argsOk; rw [signature?_of (id := "itertools.combinations.__iter__") (n := ['_', '_', 'r', 'e', 't', 'i', '_', '_']) (o := ['s', 'n', 'o', 'i', 't', 'a', 'n', 'i', 'b', 'm', 'o', 'c', '.', 's', 'l', 'o', 'o', 't', 'r', 'e', 't', 'i']) (by kernel_rfl) owner_c]; kernel_rfl
theorem args_c_next (a : Value) : argsOk "itertools.combinations.__next__" ⟨[a], []⟩ := by
  unfold argsOk; rw [signature?_of (id := "itertools.combinations.__next__") (n := ['_', '_', 't', 'x', 'e', 'n', '_', '_']) (o := ['s', 'n', 'o', 'i', 't', 'a', 'n', 'i', 'b', 'm', 'o', 'c', '.', 's', 'l', 'o', 'o', 't', 'r', 'e', 't', 'i']) (by kernel_rfl) owner_c]; kernel_rfl
theorem noDict_c : typeHasDict (.type "itertools.combinations") = false := by decide +kernel

/-- a combinations object: its pool, how far it is (0 fresh, 1 under way, 2 ended), the last tuple, the numbers -/
def fld (pool : Addr) (st : Int) (res : Value) (idx : List Nat) : Array Value := (Value.ref pool :: .int st 0 :: res :: idx.map fun (i : Nat) => Value.int (i : Int) 0).toArray
abbrev IsCmb (h : Heap) (it pool : Addr) (st : Int) (res : Value) (idx : List Nat) : Prop := h.get? it = some { cls := .type "itertools.combinations", dict := none, data := .fields (fld pool st res idx), slots := #[] }
end SpC
end

section
set_option Elab.async false
set_option linter.all false
set_option maxRecDepth 100000
set_option maxHeartbeats 4000000
/-! Sparetrees: itertools.combinations: made, asked for the next one. -/
namespace SpC
open PySem PySem.Spec PyProof.Rows
open Sem (wp)
section
variable {prog : Program} {w : World} {A : Around} {E : Value → Shared → Prop} {s : Shared}
theorem class_c (a b : Value) : Builtin.Itertools.itClassAndRest "combinations" ⟨[.type "itertools.combinations", a, b], []⟩ = pure (.type "itertools.combinations", [a, b]) := by
  unfold Builtin.Itertools.itClassAndRest
  have e : ("itertools." ++ "combinations" : String) = "itertools.combinations" := by decide +kernel
  simp only [e, isType, sub_c, pure_bind, Bool.not_true, Bool.false_eq_true, if_false]
theorem bind_c (a b : Value) : Builtin.Itertools.itBindNamed "combinations" ["iterable", "r"] 2 2 [a, b] [] = pure [some a, some b] := by
  first | rfl | kernel_rfl
theorem size_c {r : Nat} {t : Tok} (h : r ≤ 1000) : Builtin.Itertools.itSsizeArg (.int (r : Int) t) = pure (r : Int) := by
  unfold Builtin.Itertools.itSsizeArg
  have e : asIndex (.int (r : Int) t) = pure (r : Int) := by first | rfl | kernel_rfl
  rw [e]
  simp only [pure_bind]
  rw [if_neg]
  simp only [Bool.or_eq_true, decide_eq_true_eq]
  omega
theorem few_c {r : Nat} (h : r ≤ 1000) : Builtin.Itertools.itTooMany (r : Int) = false := by
  unfold Builtin.Itertools.itTooMany
  exact decide_eq_false (by omega)
theorem new_c {l : Addr} {vs : List Value} {r : Nat} {t : Tok} (hr : r ≤ 1000) (hz : vs.length ≤ sizeLine) : MeetsIn prog w (Builtin.«itertools.combinations.__new__» ⟨[.type "itertools.combinations", .ref l, .int (r : Int) t], []⟩)
    (fun A R s => s.heap.IsList l vs.toArray ∧ ∀ (h' : Heap) (it pool : Addr), s.heap.objs.size ≤ it → s.heap.objs.size ≤ pool → pool ≠ it → (∀ b o, s.heap.get? b = some o → h'.get? b = some o) → h'.get? pool = some { cls := .type "tuple", data := .seq vs.toArray } →
      IsCmb h' it pool (if r > vs.length then 2 else 0) .none (List.range r) → R (.ok (.ret (.ref it))) { s with heap := h' }) :=
  .of_wp fun A R s h => by
    obtain ⟨hl, h⟩ := h
    unfold Builtin.«itertools.combinations.__new__»
    refine wpAny_bind ?_
    refine wpAny_bind (wpAny_of_eq (class_c _ _) ?_)
    dsimp only
    refine wpAny_bind (wpAny_of_eq (bind_c _ _) ?_)
    dsimp only
    refine wpAny_bind (wpAny_of_eq (size_c hr) ?_)
    refine wpAny_bind (collect_list hl ?_ hz)
    rw [if_neg (by omega), few_c hr]
    rw [if_neg (by decide)]
    refine wpAny_bind (wpAny_newTuple ?_ )
    refine wpAny_pure ?_
    dsimp only
    rw [Int.toNat_natCast]
    refine wpAny_bind ?_
    unfold Builtin.Itertools.itNewRecord
    rw [noDict_c]
    rw [if_pos (by decide)]
    have hz2 : ∀ x y z : Value, ([x, y, z] ++ List.map (fun (i : Nat) => rawInt (i : Int)) (List.range r)).toArray.size ≤ sizeLine + 2 := fun x y z => by
      rw [List.size_toArray, List.length_append, List.length_map, List.length_range, sizeLine_eq]
      show 3 + r ≤ _
      omega
    refine wpAny_newObj_type ?_ (hz2 _ _ _)
    have e1 : ((s.heap.push (seqObj "list" #[] 0)).update s.heap.objs.size (Obj.mapSeq fun x => x ++ vs.toArray)).objs.size = s.heap.objs.size + 1 := by rw [Heap.size_update, size_push']
    refine wpAny_pure ⟨_, rfl, ?_⟩
    refine h _ _ s.heap.objs.size.succ ?_ (Nat.le_succ _) ?_ (fun b o q => ?_) ?_ ?_
    · rw [Heap.size_push, e1]; exact Nat.le_add_right _ 2
    · rw [Heap.size_push, e1]; exact Nat.ne_of_lt (Nat.lt_succ_self _)
    · have hlt : b < s.heap.objs.size := Heap.lt_size q
      refine Heap.get?_push_of_some _ (Heap.get?_push_of_some _ ?_)
      rw [Heap.get?_update_ne _ _ _ _ (Nat.ne_of_lt hlt)]
      exact Heap.get?_push_of_some _ q
    · refine Heap.get?_push_of_some _ ?_
      have q := Heap.get?_push_size ((s.heap.push (seqObj "list" #[] 0)).update s.heap.objs.size (Obj.mapSeq fun x => x ++ vs.toArray)) (o := { cls := .type "tuple", data := .seq vs.toArray }) rfl
      rw [e1] at q
      exact q
    · have q := Heap.get?_push_size (((s.heap.push (seqObj "list" #[] 0)).update s.heap.objs.size (Obj.mapSeq fun x => x ++ vs.toArray)).push { cls := .type "tuple", data := .seq vs.toArray }) (o := { cls := .type "itertools.combinations", dict := none, data := .fields (fld (s.heap.objs.size + 1) (if r > vs.length then 2 else 0) .none (List.range r)), slots := #[] }) rfl
      rw [e1]
      exact q
/-- combinations(l, r) -/
theorem call_c {l : Addr} {vs : List Value} {r : Nat} {t : Tok} {Q : Value → Shared → Prop} (hr : r ≤ 1000) (hz : vs.length ≤ sizeLine) (hl : s.heap.IsList l vs.toArray)
    (h : ∀ (h' : Heap) (it pool : Addr), s.heap.objs.size ≤ it → s.heap.objs.size ≤ pool → pool ≠ it → (∀ b o, s.heap.get? b = some o → h'.get? b = some o) → h'.get? pool = some { cls := .type "tuple", data := .seq vs.toArray } →
      IsCmb h' it pool (if r > vs.length then 2 else 0) .none (List.range r) → Q (.ref it) { s with heap := h' }) :
    wpAny (model prog w) A (call (.type "itertools.combinations") [.ref l, .int (r : Int) t]) Q E s := by
  refine callType_newIn called_c (by decide) (typeCall_c _ _) (newCall_c _ _) (fun obj => F.args_object_init_3 obj _ _) entry_c_new (new_c hr hz) ?_
  refine ⟨hl, fun h' it pool h1 h2 h3 h4 h5 h6 => ?_⟩
  exact ⟨⟨_, h6, rfl⟩, h h' it pool h1 h2 h3 h4 h5 h6⟩
theorem pyIter_c {it pool : Addr} {st : Int} {res : Value} {idx : List Nat} {Q : Value → Shared → Prop} (hit : IsCmb s.heap it pool st res idx) (h : Q (.ref it) s) : wpAny (model prog w) A (pyIter (.ref it)) Q E s := by
  have hT : s.TypeIs (.ref it) "itertools.combinations" := ⟨_, hit, rfl⟩
  refine wpAny_pyIter_slot hT iter_c (wpAny_call_entry iter_c hT entry_c_iter ?_ (args_c_iter _))
  show wpAny _ _ (ret (.ref it)) _ _ s
  exact wpAny_pure ⟨_, rfl, "itertools.combinations", _, hT, next_c.lookup, h⟩
theorem nums_c {it pool : Addr} {st : Int} {res : Value} {idx : List Nat} {Q : List Nat → Shared → Prop} (hit : IsCmb s.heap it pool st res idx) (h : Q idx s) : wpAny (model prog w) A (Builtin.Itertools.itNumbersFrom (.ref it) 3) Q E s := by
  unfold Builtin.Itertools.itNumbersFrom
  refine wpAny_bind (wpAny_load hit ?_)
  dsimp only
  have key : ∀ f : Value → Nat, (∀ i : Nat, f (.int (i : Int) 0) = i) → ((fld pool st res idx).toList.drop 3).map f = idx := fun f hf => by
    show (idx.map fun (i : Nat) => Value.int (i : Int) 0).map f = idx
    rw [List.map_map]
    conv => rhs; rw [← List.map_id idx]
    exact List.map_congr_left fun i _ => hf i
  rw [key _ fun i => rfl]
  exact wpAny_pure h
/-- b follows a among the ways to choose so many of n places -/
def SucC (n : Nat) (a b : List Nat) : Prop := ∃ i, i < a.length ∧ a.getD i 0 ≠ i + n - a.length ∧ (∀ j, i < j → j < a.length → a.getD j 0 = j + n - a.length) ∧ b = a.take i ++ (List.range (a.length - i)).map (fun j => a.getD i 0 + 1 + j)
/-- a is the last one -/
def LastC (n : Nat) (a : List Nat) : Prop := ∀ i, i < a.length → a.getD i 0 = i + n - a.length
theorem pool_c {pool : Addr} {vs : List Value} {Q : Array Value → Shared → Prop} (hp : s.heap.get? pool = some { cls := .type "tuple", data := .seq vs.toArray }) (h : Q vs.toArray s) : wpAny (model prog w) A (Builtin.Itertools.itPoolItems (.ref pool)) Q E s := by
  unfold Builtin.Itertools.itPoolItems
  refine wpAny_bind (wpAny_seqItems hp rfl ?_)
  exact wpAny_pure h
theorem fld_set1 {pool : Addr} {st st' : Int} {res : Value} {idx : List Nat} : (fld pool st res idx).setIfInBounds 1 (rawInt st') = fld pool st' res idx := by
  unfold fld; simp [rawInt]
theorem fld_set2 {pool : Addr} {st : Int} {res res' : Value} {idx : List Nat} : (fld pool st res idx).setIfInBounds 2 res' = fld pool st res' idx := by
  unfold fld; simp
/-- what is handed out -/
def tupC (vs : List Value) (idx : List Nat) : List Value := idx.map fun i => vs.toArray.getD i .none
/-- the tuple is made and kept: the last lines of a step -/
theorem hand_c {it pool : Addr} {vs : List Value} {idx : List Nat} {st : Int} {old : Value} {Q : Value → Shared → Prop} (hit : IsCmb s.heap it pool st old idx) (hp : s.heap.get? pool = some { cls := .type "tuple", data := .seq vs.toArray }) (hz : idx.length ≤ 1000)
    (hQ : ∀ h', IsCmb h' it pool st (.ref s.heap.objs.size) idx → h'.get? s.heap.objs.size = some { cls := .type "tuple", data := .seq (tupC vs idx).toArray } → (∀ b o, b ≠ it → s.heap.get? b = some o → h'.get? b = some o) → Q (.ref s.heap.objs.size) { s with heap := h' }) :
    wpAny (model prog w) A (do
      let result ← (do
        let items ← Builtin.Itertools.itPoolItems (.ref pool)
        newTuple (idx.map fun i => items.getD i .none))
      let before ← field (.ref it) 2
      setField (.ref it) 2 result
      letGo [before] [result]
      ret result) (fun fin s' => ∃ v, fin = .done (.ret v) ∧ Q v s') E s := by
  refine wpAny_bind (wpAny_bind (pool_c hp ?_))
  have hlen : (idx.map fun i => vs.toArray.getD i .none).length ≤ sizeLine := by rw [List.length_map, sizeLine_eq]; omega
  refine wpAny_newTuple ?_ hlen
  have hit1 : IsCmb (s.heap.push { cls := .type "tuple", data := .seq (idx.map fun i => vs.toArray.getD i .none).toArray }) it pool st old idx := Heap.get?_push_of_some _ hit
  refine wpAny_bind (wpAny_field hit1 rfl (x := old) rfl ?_)
  refine wpAny_bind (wpAny_setField hit1 rfl (by unfold fld; simp) ?_)
  refine wpAny_bind (wpAny_letGo (wpAny_pure ⟨_, rfl, ?_⟩))
  have hlt : it ≠ s.heap.objs.size := Nat.ne_of_lt (Heap.lt_size hit)
  refine hQ _ ?_ ?_ fun b o hb q => ?_
  · have q := Heap.get?_update_self (Obj.mapFields fun x => x.setIfInBounds 2 (.ref s.heap.objs.size)) hit1 rfl
    refine q.trans (congrArg some ?_)
    show ({ cls := .type "itertools.combinations", dict := none, data := .fields ((fld pool st old idx).setIfInBounds 2 (.ref s.heap.objs.size)), slots := #[] } : Obj) = _
    rw [fld_set2]
  · rw [Heap.get?_update_ne _ _ _ _ (Ne.symm hlt)]
    exact Heap.get?_push_size _ rfl
  · rw [Heap.get?_update_ne _ _ _ _ hb]
    exact Heap.get?_push_of_some _ q
theorem stop_c {it : Addr} {α : Type} {Q : α → Shared → Prop} (hh : A.handled = none) (hQ : ∀ e h', CpRep.StopE e h' → Heap.ExtBut it s.heap h' → E e { s with heap := h' }) : wpAny (model prog w) A (Builtin.Itertools.itStop : Sem α) Q E s := by
  unfold Builtin.Itertools.itStop
  refine wpAny_bind ?_
  simp only [newExc, newTuple]
  refine wpAny_bind (wpAny_newObj_type ?_ (by size_fits))
  refine wpAny_bind (m := firstArgMember _ _) (wpAny_of_eq (a := Value.none) (by first | rfl | (simp only [firstArgMember]; rfl)) ?_)
  refine wpAny_newObj_type ?_ (by size_fits)
  simp only [raiseNew]
  refine wpAny_bind (wpAny_handled ?_)
  first | rw [show A.in1.handled = none from hh] | rw [hh]
  refine wpAny_bind (wpAny_pure (wpAny_throw ?_))
  exact hQ _ _ ⟨_, _, _, rfl, Heap.get?_push_size _ rfl, rfl, rfl, rfl⟩ (((Heap.ExtBut.refl it s.heap).push _).push _)
theorem next_first {it pool : Addr} {vs : List Value} {idx : List Nat} {Q : Value → Shared → Prop} (hit : IsCmb s.heap it pool 0 .none idx) (hp : s.heap.get? pool = some { cls := .type "tuple", data := .seq vs.toArray }) (hpi : pool ≠ it) (hz : idx.length ≤ 1000)
    (hQ : ∀ h', IsCmb h' it pool 1 (.ref s.heap.objs.size) idx → h'.get? s.heap.objs.size = some { cls := .type "tuple", data := .seq (tupC vs idx).toArray } → (∀ b o, b ≠ it → s.heap.get? b = some o → h'.get? b = some o) → Q (.ref s.heap.objs.size) { s with heap := h' }) :
    wpAny (model prog w) A (Builtin.«itertools.combinations.__next__» ⟨[.ref it], []⟩) (fun fin s' => ∃ v, fin = .done (.ret v) ∧ Q v s') E s := by
  show wpAny _ _ (slotArgs "__next__" 0 ⟨[.ref it], []⟩ >>= _) _ _ _
  refine wpAny_bind (wpAny_pure ?_)
  try dsimp only
  refine wpAny_bind (wpAny_field hit rfl (x := .ref pool) rfl ?_)
  refine wpAny_bind (nums_c hit ?_)
  refine wpAny_bind (wpAny_bind (wpAny_field hit rfl (x := .int 0 0) rfl (wpAny_pure ?_)))
  try dsimp only
  refine wpAny_bind (wpAny_setField hit rfl (by unfold fld; simp) ?_)
  have hit2 : IsCmb (s.heap.update it (Obj.mapFields fun x => x.setIfInBounds 1 (rawInt 1))) it pool 1 .none idx := by
    have q := Heap.get?_update_self (Obj.mapFields fun x => x.setIfInBounds 1 (rawInt 1)) hit rfl
    refine q.trans (congrArg some ?_)
    show ({ cls := .type "itertools.combinations", dict := none, data := .fields ((fld pool 0 .none idx).setIfInBounds 1 (rawInt 1)), slots := #[] } : Obj) = _
    rw [fld_set1]
  have hsz : (s.heap.update it (Obj.mapFields fun x => x.setIfInBounds 1 (rawInt 1))).objs.size = s.heap.objs.size := Heap.size_update ..
  refine hand_c (s := { s with heap := s.heap.update it (Obj.mapFields fun x => x.setIfInBounds 1 (rawInt 1)) }) hit2 (by rw [Heap.get?_update_ne _ _ _ _ hpi]; exact hp) hz fun h' h1 h2 h3 => ?_
  rw [show ({ s with heap := s.heap.update it (Obj.mapFields fun x => x.setIfInBounds 1 (rawInt 1)) } : Shared).heap.objs.size = s.heap.objs.size from hsz] at h1 h2 ⊢
  refine hQ h' h1 h2 fun b o hb q => h3 b o hb ?_
  rw [Heap.get?_update_ne _ _ _ _ hb]
  exact q
theorem fld_setN {pool : Addr} {st : Int} {res : Value} {idx idx' : List Nat} : (fld pool st res idx).extract 0 3 ++ (idx'.map fun (i : Nat) => rawInt (i : Int)).toArray = fld pool st res idx' := by
  unfold fld
  apply Array.toList_inj.mp
  simp [rawInt]
theorem find_c {n : Nat} {a : List Nat} {i : Nat} (hi : i < a.length) (h1 : a.getD i 0 ≠ i + n - a.length) (h2 : ∀ j, i < j → j < a.length → a.getD j 0 = j + n - a.length) :
    (List.range a.length).reverse.find? (fun i => a.getD i 0 != i + n - a.length) = some i := by
  have e : List.range a.length = List.range i ++ i :: List.range' (i + 1) (a.length - i - 1) := by
    have h := List.range_eq_range' (n := a.length)
    rw [h]
    have h3 : a.length = i + (1 + (a.length - i - 1)) := by omega
    conv => lhs; rw [h3]
    rw [← List.range'_append_1, ← List.range_eq_range', Nat.zero_add, Nat.add_comm 1, List.range'_succ]
  rw [e, List.reverse_append, List.reverse_cons, List.append_assoc]
  refine List.find?_eq_some_iff_append.mpr ⟨by simpa using h1, _, _, rfl, fun j hj => ?_⟩
  rw [List.mem_reverse, List.mem_range'_1] at hj
  have q := h2 j (by omega) (by omega)
  rw [q]
  simp
theorem next_mid {it pool : Addr} {vs : List Value} {idx idx' : List Nat} {old : Value} {Q : Value → Shared → Prop} (hit : IsCmb s.heap it pool 1 old idx) (hp : s.heap.get? pool = some { cls := .type "tuple", data := .seq vs.toArray }) (hpi : pool ≠ it) (hz : idx'.length ≤ 1000) (hs : SucC vs.length idx idx')
    (hQ : ∀ h', IsCmb h' it pool 1 (.ref s.heap.objs.size) idx' → h'.get? s.heap.objs.size = some { cls := .type "tuple", data := .seq (tupC vs idx').toArray } → (∀ b o, b ≠ it → s.heap.get? b = some o → h'.get? b = some o) → Q (.ref s.heap.objs.size) { s with heap := h' }) :
    wpAny (model prog w) A (Builtin.«itertools.combinations.__next__» ⟨[.ref it], []⟩) (fun fin s' => ∃ v, fin = .done (.ret v) ∧ Q v s') E s := by
  obtain ⟨i, hi, h1, h2, h3⟩ := hs
  have hf := find_c hi h1 h2
  show wpAny _ _ (slotArgs "__next__" 0 ⟨[.ref it], []⟩ >>= _) _ _ _
  refine wpAny_bind (wpAny_pure ?_)
  try dsimp only
  refine wpAny_bind (wpAny_field hit rfl (x := .ref pool) rfl ?_)
  refine wpAny_bind (nums_c hit ?_)
  refine wpAny_bind (wpAny_bind (wpAny_field hit rfl (x := .int 1 0) rfl (wpAny_pure ?_)))
  try dsimp only
  refine wpAny_bind (pool_c hp ?_)
  have key : ∀ o : Option (List Nat), o = (match List.find? (fun i => idx.getD i 0 != i + vs.toArray.size - idx.length) (List.range idx.length).reverse with
      | none => none
      | some i => some (idx.take i ++ (List.range (idx.length - i)).map (idx.getD i 0 + 1 + ·))) → o = some idx' := fun o e => by
    rw [List.size_toArray, hf] at e
    rw [e, h3]
  split
  · rename_i nx hn
    have e2 := key _ rfl
    have e3 : nx = idx' := Option.some.inj (hn.symm.trans e2)
    subst e3
    unfold Builtin.Itertools.itSetNumbersFrom
    refine wpAny_bind (wpAny_updateFields hit rfl ?_ ?_)
    · have hit2 : IsCmb (s.heap.update it (Obj.mapFields fun fs => fs.extract 0 3 ++ (nx.map fun (n : Nat) => rawInt (n : Int)).toArray)) it pool 1 old nx := by
        have q := Heap.get?_update_self (Obj.mapFields fun fs => fs.extract 0 3 ++ (nx.map fun (n : Nat) => rawInt (n : Int)).toArray) hit rfl
        refine q.trans (congrArg some ?_)
        show ({ cls := .type "itertools.combinations", dict := none, data := .fields ((fld pool 1 old idx).extract 0 3 ++ (nx.map fun (n : Nat) => rawInt (n : Int)).toArray), slots := #[] } : Obj) = _
        rw [fld_setN]
      have hsz : (s.heap.update it (Obj.mapFields fun fs => fs.extract 0 3 ++ (nx.map fun (n : Nat) => rawInt (n : Int)).toArray)).objs.size = s.heap.objs.size := Heap.size_update ..
      refine hand_c (s := { s with heap := s.heap.update it (Obj.mapFields fun fs => fs.extract 0 3 ++ (nx.map fun (n : Nat) => rawInt (n : Int)).toArray) }) hit2 (by rw [Heap.get?_update_ne _ _ _ _ hpi]; exact hp) hz fun h' g1 g2 g3 => ?_
      rw [show ({ s with heap := s.heap.update it (Obj.mapFields fun fs => fs.extract 0 3 ++ (nx.map fun (n : Nat) => rawInt (n : Int)).toArray) } : Shared).heap.objs.size = s.heap.objs.size from hsz] at g1 g2 ⊢
      refine hQ h' g1 g2 fun b o hb q => g3 b o hb ?_
      rw [Heap.get?_update_ne _ _ _ _ hb]
      exact q
    · rw [fld_setN]
      unfold fld
      rw [List.size_toArray, List.length_cons, List.length_cons, List.length_cons, List.length_map, sizeLine_eq]
      omega
  · rename_i hn
    have e2 := key _ rfl
    have e3 : none = some idx' := hn.symm.trans e2
    cases e3
theorem next_end {it pool : Addr} {vs : List Value} {idx : List Nat} {old : Value} {Q : Value → Shared → Prop} (hh : A.handled = none) (hit : IsCmb s.heap it pool 1 old idx) (hp : s.heap.get? pool = some { cls := .type "tuple", data := .seq vs.toArray }) (hl : LastC vs.length idx)
    (hQ : ∀ e h', CpRep.StopE e h' → Heap.ExtBut it s.heap h' → E e { s with heap := h' }) :
    wpAny (model prog w) A (Builtin.«itertools.combinations.__next__» ⟨[.ref it], []⟩) (fun fin s' => ∃ v, fin = .done (.ret v) ∧ Q v s') E s := by
  show wpAny _ _ (slotArgs "__next__" 0 ⟨[.ref it], []⟩ >>= _) _ _ _
  refine wpAny_bind (wpAny_pure ?_)
  try dsimp only
  refine wpAny_bind (wpAny_field hit rfl (x := .ref pool) rfl ?_)
  refine wpAny_bind (nums_c hit ?_)
  refine wpAny_bind (wpAny_bind (wpAny_field hit rfl (x := .int 1 0) rfl (wpAny_pure ?_)))
  try dsimp only
  refine wpAny_bind (pool_c hp ?_)
  have hf : List.find? (fun i => idx.getD i 0 != i + vs.length - idx.length) (List.range idx.length).reverse = none := by
    refine List.find?_eq_none.mpr fun i hi => ?_
    rw [List.mem_reverse, List.mem_range] at hi
    have q := hl i hi
    rw [q]
    simp
  have key : ∀ o : Option (List Nat), o = (match List.find? (fun i => idx.getD i 0 != i + vs.toArray.size - idx.length) (List.range idx.length).reverse with
      | none => none
      | some i => some (idx.take i ++ (List.range (idx.length - i)).map (idx.getD i 0 + 1 + ·))) → o = none := fun o e => by
    rw [List.size_toArray, hf] at e
    exact e
  split
  · rename_i nx hn
    have e2 := key _ rfl
    have e3 : some nx = none := hn.symm.trans e2
    cases e3
  · refine wpAny_bind (wpAny_setField hit rfl (by unfold fld; simp) ?_)
    refine stop_c (it := it) hh fun e h' h1 h2 => hQ e h' h1 fun b o hb q => ?_
    refine h2 b o hb ?_
    show (s.heap.update it _).get? b = some o
    rw [Heap.get?_update_ne _ _ _ _ hb]
    exact q
end
end SpC
end

section
set_option Elab.async false
set_option linter.all false
set_option maxRecDepth 100000
set_option maxHeartbeats 4000000
/-! Sparetrees: for x in combinations(xs, r). -/
namespace SpC
open PySem PySem.Spec PyProof.Rows L2
/-- the lists of numbers that come, one behind another -/
structure Chain (n r : Nat) (L : List (List Nat)) : Prop where
  ne : L ≠ []
  first : L[0]? = some (List.range r)
  len : ∀ a ∈ L, a.length ≤ 1000
  suc : ∀ i a b, L[i]? = some a → L[i + 1]? = some b → SucC n a b
  last : ∀ a, L[L.length - 1]? = some a → LastC n a
  fits : r ≤ n
/-- the i-th choice: a new tuple -/
def chs (xs : List V) (a : List Nat) : List V := a.map fun j => xs.getD j .non
def Itcb (xs : List V) (L : List (List Nat)) : It :=
  ⟨fun i _ => i < L.length, fun i H x H' => ∃ T a, x = .ref T ∧ H T = none ∧ L[i]? = some a ∧ H' = upd H T (.tup (chs xs a)), fun i _ => i = L.length⟩
def tnC (it pool : Addr) (vs : List Value) (L : List (List Nat)) (i : Nat) (h : Heap) : Prop :=
  h.get? pool = some { cls := .type "tuple", data := .seq vs.toArray } ∧ ((i = 0 ∧ ∃ a, L[0]? = some a ∧ IsCmb h it pool 0 .none a) ∨ (0 < i ∧ ∃ a res, L[i - 1]? = some a ∧ IsCmb h it pool 1 res a))
theorem tnC.cmb {it pool : Addr} {vs : List Value} {L : List (List Nat)} {i : Nat} {h : Heap} (t : tnC it pool vs L i h) : ∃ st res a, IsCmb h it pool st res a := by
  obtain ⟨_, ⟨_, a, _, q⟩ | ⟨_, a, res, _, q⟩⟩ := t
  · exact ⟨_, _, _, q⟩
  · exact ⟨_, _, _, q⟩
theorem rel_getD {xs : List V} {vs : List Value} (r : Vals xs vs) (j : Nat) : RelV (xs.getD j .non) (vs.toArray.getD j .none) := by
  have e : vs.toArray.getD j .none = vs.getD j .none := by simp [List.getD_eq_getElem?_getD, Array.getD_eq_getD_getElem?]
  rw [e, List.getD_eq_getElem?_getD, List.getD_eq_getElem?_getD]
  cases h : xs[j]? with
  | some x =>
    obtain ⟨u, h1, h2⟩ := r.get h
    rw [h1]; exact h2
  | none =>
    rw [r.none_of h]; rfl
theorem vals_tupC {xs : List V} {vs : List Value} (r : Vals xs vs) : ∀ a : List Nat, Vals (chs xs a) (tupC vs a)
  | [] => .nil
  | j :: a => .cons (rel_getD r j) (vals_tupC r a)
theorem pyNext_of {prog : Program} {w : World} {A : Around} {E : Value → Shared → Prop} {s : Shared} {it pool : Addr} {st : Int} {res : Value} {idx : List Nat} {Q : Option Value → Shared → Prop} (hit : IsCmb s.heap it pool st res idx)
    (h : ∀ E' : Value → Shared → Prop, (∀ e s', E' e s' ↔ wpAny (model prog w) A (do if ← isInstance e (.type "StopIteration") then pure none else throw e) Q E s') → wpAny (model prog w) A.in1 (Builtin.«itertools.combinations.__next__» ⟨[.ref it], []⟩) (fun fin s' => ∃ v, fin = .done (.ret v) ∧ Q (some v) s') E' s) :
    wpAny (model prog w) A (pyNext (.ref it)) Q E s := by
  have hT : s.TypeIs (.ref it) "itertools.combinations" := ⟨_, hit, rfl⟩
  unfold pyNext
  refine wpAny_bind (wpAny_attempt (wpAny_callSpecial?_slot (name := Str.ofString "__next__") hT next_c (wpAny_call_entry next_c hT entry_c_next ?_ (args_c_next _))))
  refine wpAny_mono (h _ fun e s' => Iff.rfl) (fun fin s' hq => ?_) fun e s' hq => hq
  obtain ⟨v, e, q⟩ := hq
  exact ⟨v, e, wpAny_pure q⟩
theorem turn_c {P : Program} {w : World} {K : PySem.W.Frag} {tg : Expr} {it pool : Addr} {xs : List V} {vs : List Value} {L : List (List Nat)} {r : Nat} (rv : Vals xs vs) (hpi : pool ≠ it) (C : Chain xs.length r L) : Turn P w K tg (Itcb xs L) [it, pool] it (tnC it pool vs L) where
  mem := by simp
  obj := fun i h st b hb => by
    have e : b = it ∨ b = pool := by simpa using hb
    rcases e with e | e
    · obtain ⟨_, _, _, q⟩ := st.cmb
      rw [e]
      exact ⟨_, q, fun v z => by cases z⟩
    · rw [e]
      exact ⟨_, st.1, fun v z => by cases z⟩
  keep := fun i h h' st k => by
    obtain ⟨h1, h2⟩ := st
    refine ⟨k pool (by simp) _ h1, ?_⟩
    rcases h2 with ⟨e, a, ha, q⟩ | ⟨e, a, res, ha, q⟩
    · exact .inl ⟨e, a, ha, k it (by simp) _ q⟩
    · exact .inr ⟨e, a, res, ha, k it (by simp) _ q⟩
  item := by
    intro X hP hw hK hc i pins s σ H E I hf st hg
    subst hP hw hK
    have hg' : i < L.length := hg
    have hl := rv.length
    obtain ⟨b, hb⟩ : ∃ b, L[i]? = some b := ⟨_, List.getElem?_eq_getElem hg'⟩
    have hbl := C.len b (List.mem_of_getElem? hb)
    have fin : ∀ h' : Heap, IsCmb h' it pool 1 (.ref s.heap.objs.size) b → h'.get? s.heap.objs.size = some { cls := .type "tuple", data := .seq (tupC vs b).toArray } → (∀ c o, c ≠ it → s.heap.get? c = some o → h'.get? c = some o) →
        ∃ u, some (Value.ref s.heap.objs.size) = some u ∧ wpAny (model X.prog X.w) X.A (letOwnedTupleGo tg (.ref it) u) (fun _ s2 => ∃ x H', Inv X pins σ H' s2 ∧ RelV x u ∧ (Itcb xs L).yld i H x H' ∧ tnC it pool vs L (i + 1) s2.heap ∧ ∀ b ∈ [it, pool], H' b = none) E { s with heap := h' } := by
      intro h' h1 h2 h3
      have hn : H s.heap.objs.size = none := I.hok.fresh (Nat.le_refl _)
      have r2 := vals_tupC rv b
      have new : ObjOk X.prog X.w (upd H s.heap.objs.size (.tup (chs xs b))) h' s.heap.objs.size (.tup (chs xs b)) :=
        ⟨by unfold chs; rw [List.length_map, sizeLine_eq]; omega, tupC vs b, r2, ⟨_, h2, rfl, _, rfl⟩⟩
      have hfc : ∀ c ∈ [it], FpOk X pins H c := fun c hc => by
        have e : c = it := by simpa using hc
        rw [e]
        exact hf it (by simp)
      have I1 : Inv X pins σ (upd H s.heap.objs.size (.tup (chs xs b))) { s with heap := h' } :=
        I.turnedNew (t' := s.toks) (ch := [it]) (fun c o hc q => h3 c o (fun z => hc (by simp [z])) q) hfc (Nat.le_refl _) new
      refine ⟨_, rfl, go_of (s := { s with heap := h' }) (n := "itertools.combinations") h1 rfl rfl (by decide) ⟨.ref s.heap.objs.size, _, I1, rfl, ⟨_, b, rfl, hn, hb, rfl⟩, ⟨?_, .inr ⟨Nat.succ_pos _, b, _, by rw [Nat.add_sub_cancel]; exact hb, h1⟩⟩, fun c hc => ?_⟩⟩
      · exact h3 pool _ hpi st.1
      · have hcn := (hf c hc).1
        have hlt : c < s.heap.objs.size := by
          have e : c = it ∨ c = pool := by simpa using hc
          rcases e with e | e
          · obtain ⟨_, _, _, q⟩ := st.cmb
            rw [e]; exact Heap.lt_size q
          · rw [e]; exact Heap.lt_size st.1
        rw [upd_ne (Nat.ne_of_lt hlt)]
        exact hcn
    obtain ⟨hp, h2⟩ := st
    rcases h2 with ⟨e, a, ha, q⟩ | ⟨e, a, res, ha, q⟩
    · subst e
      rw [hb] at ha
      cases ha
      exact pyNext_of q fun E' _ => next_first q hp hpi hbl fun h' g1 g2 g3 => fin h' g1 g2 g3
    · have hs := C.suc (i - 1) a b ha (by rw [Nat.sub_add_cancel e]; exact hb)
      rw [hl] at hs
      exact pyNext_of q fun E' _ => next_mid q hp hpi hbl hs fun h' g1 g2 g3 => fin h' g1 g2 g3
  done := by
    intro X hP hw hK hc i pins s σ H E I hf st hg
    subst hP hw hK
    have hg' : i = L.length := hg
    have hpos : 0 < L.length := List.length_pos_iff.mpr C.ne
    obtain ⟨f0, f1, f2, f3, f4, f5⟩ := hf it (by simp)
    obtain ⟨hp, h2⟩ := st
    rcases h2 with ⟨e, a, ha, q⟩ | ⟨e, a, res, ha, q⟩
    · omega
    · rw [hg'] at ha
      have hl := C.last a ha
      rw [rv.length] at hl
      refine pyNext_of q fun E' hE => next_end (A := X.A.in1) (I.ok.hd hc) q hp hl fun e h' h1 h2 => (hE _ _).mpr ?_
      obtain ⟨a', o, vs', rfl, ho, hcl, _⟩ := h1
      refine wpAny_bind (wpAny_isInstance (T := "StopIteration") (b := true) ⟨o, ho, hcl⟩ isSubtype_stop ?_)
      exact wpAny_pure ⟨rfl, I.turned (t' := s.toks) (fun b o hb e => h2 b o hb e) f0 f1 f3 f4 f5⟩
  self := fun A i s Q E st h => by
    obtain ⟨_, _, _, q⟩ := st.cmb
    exact pyIter_c q h
/-- combinations(xs, r) -/
def iComb (K : PySem.W.Frag) (ta : TA) : TI := fun σ H R => ta σ H fun us H1 => ∃ (a : Addr) (xs : List V) (r : Nat) (L : List (List Nat)), us = [.ref a, .int (r : Int)] ∧ SqL K H1 a xs ∧ r ≤ 1000 ∧ Chain xs.length r L ∧ R (Itcb xs L) H1
theorem pi_comb {X : Cx} {tg e f : Expr} {x : Str} {ta : TA} {p pos : Pos} (hg : Gl X x) (hm : X.mg x = some (.type "itertools.combinations")) (ha : PA X [e, f] ta) (hd : (x == ("__debug__" : Str)) = false := by decide)
    (hs : starEach [e, f] X.env = (false, eval e X.env) :: starEach [f] X.env := by rfl) (hs2 : (backTo pos (starEach [f] X.env)).any (·.1) = false := by rfl) : PI X tg (.Call (.Name x p) [e, f] [] pos) (iComb X.K ta) := by
  refine ⟨fun pins s σ H R I h => ?_⟩
  refine Call_ (ld_glob I hg hm (PyProof.Rows.callWith_type1 (thn (ha.run pos pins s σ H _ I h) fun us s1 ⟨vs, H1, I1, r1, q1⟩ => ?_) hs hs2) hd)
  obtain ⟨a, xs, r, L, e1, hq, hr, C, q⟩ := q1
  subst e1
  obtain ⟨u1, u2, eu, ru1, ru2⟩ := vals2 r1
  subst eu
  cases ru1
  obtain ⟨t, rfl⟩ := ru2
  obtain ⟨its, rv, p', hz⟩ := I1.list hq
  have hl := rv.length
  refine call_c hr (by rw [← hl]; exact hz) p'.isList fun h' it pool g1 g2 g3 g4 g5 g6 => pyIter_c g6 ?_
  refine ⟨it, [it, pool], tnC it pool its L, Itcb xs L, H1, rfl, I1.kept (t' := s1.toks) g4, turn_c rv g3 C, ⟨g5, .inl ⟨rfl, _, C.first, ?_⟩⟩, fun b hb => ?_, q⟩
  · have e : ¬ r > its.length := by have := C.fits; omega
    rw [if_neg e] at g6
    exact g6
  · have e : b = it ∨ b = pool := by simpa using hb
    rcases e with e | e
    · rw [e]; exact I1.fpOk g1 (I1.hok.fresh g1)
    · rw [e]; exact I1.fpOk g2 (I1.hok.fresh g2)
/-- .. as a walk -/
theorem walk_comb {xs : List V} {L : List (List Nat)} : Walk (Itcb xs L) L.length (fun _ => True) (fun i H x H' => ∃ T a, x = .ref T ∧ H T = none ∧ L[i]? = some a ∧ H' = upd H T (.tup (chs xs a))) :=
  ⟨fun _ _ hi _ => hi, fun _ _ => rfl, fun _ _ _ _ _ _ y => y⟩
end SpC
end

section
set_option Elab.async false
set_option linter.all false
set_option maxRecDepth 100000
set_option maxHeartbeats 4000000
/-! Sparetrees: for a, b in enumerate(t), t a tuple. -/
namespace SpE
open PySem PySem.Spec PyProof.Rows L2
theorem new_e {v : Value} {o : Obj} {H : Heap → Prop} (B : Begins v o H) :
    Meets (Builtin.«enumerate.__new__» ⟨[.type "enumerate", v], []⟩) (fun _ R s => H s.heap ∧
      R (.ok (.ret (.ref (s.heap.push o).objs.size))) { s with heap := (s.heap.push o).push { cls := .type "enumerate", data := .fields #[.none, .bool false, .ref s.heap.objs.size, rawInt 0, .none, .none] } }) :=
  .of_wp fun prog w A R s h => by
    obtain ⟨hp, g, d, tk, os⟩ := s; obtain ⟨h1, h⟩ := h
    have hsub := sub_enumerate
    have q1 : ∀ {A' : Around} {E : Value → Shared → Prop} {Q : Value → Shared → Prop}, Q (.ref hp.objs.size) ⟨hp.push o, g, d, tk, os⟩ → wpAny (model prog w) A' (pyIter v) Q E ⟨hp, g, d, tk, os⟩ :=
      fun q => B.iter prog w _ _ ⟨hp, g, d, tk, os⟩ _ h1 q
    wp_walk using q1
    refine wpAny_stack_any fun st => wpAny_pure ?_
    split
    · rename_i c _ _ _ _ _
      cases (c == Value.type "enumerate")
      · wp_walk using q1
        exact ⟨_, rfl, h⟩
      · wp_walk using q1
        exact ⟨_, rfl, h⟩
    · wp_walk using q1
      exact ⟨_, rfl, h⟩
theorem call_e {prog : Program} {w : World} {A : Around} {E : Value → Shared → Prop} {s : Shared} {v : Value} {o : Obj} {H : Heap → Prop} {Q : Value → Shared → Prop} (B : Begins v o H) (h1 : H s.heap)
    (h : ∀ h', IsEnum h' (s.heap.objs.size + 1) s.heap.objs.size 0 .none → h'.get? s.heap.objs.size = some o → (∀ b o, s.heap.get? b = some o → h'.get? b = some o) → Q (.ref (s.heap.objs.size + 1)) { s with heap := h' }) :
    wpAny (model prog w) A (call (.type "enumerate") [v]) Q E s := by
  refine callType_new F.called_enumerate (by decide) (F.typeCall_enumerate_1 _) (F.newCall_enumerate_1 _) (fun obj => F.args_object_init_2 obj _) F.entry_enumerate_new (new_e B) ⟨h1, ?_⟩
  have hz : (s.heap.push o).objs.size = s.heap.objs.size + 1 := Heap.size_push ..
  show _ ∧ _
  rw [hz]
  have he : IsEnum ((s.heap.push o).push { cls := .type "enumerate", data := .fields #[.none, .bool false, .ref s.heap.objs.size, rawInt 0, .none, .none] }) (s.heap.objs.size + 1) s.heap.objs.size 0 .none := by
    have := Heap.get?_push_size (s.heap.push o) (o := { cls := .type "enumerate", data := .fields #[.none, .bool false, .ref s.heap.objs.size, rawInt 0, .none, .none] }) rfl
    rw [hz] at this; exact this
  exact ⟨⟨_, he, rfl⟩, h _ he (Heap.get?_push_of_some _ (Heap.get?_push_size _ B.free)) fun b o x => Heap.get?_push_of_some _ (Heap.get?_push_of_some _ x)⟩
/-- numbered items of the tuple at a, in new pairs -/
def IteT (K : PySem.W.Frag) (a : Addr) : It :=
  ⟨fun i H => ∃ xs x, SqT K H a xs ∧ xs[i]? = some x, fun i H v H' => ∃ T x, v = .ref T ∧ H T = none ∧ H' = upd H T (.tup [.int (i : Nat), x]) ∧ ∀ xs, SqT K H a xs → xs[i]? = some x, fun i H => ∃ xs, SqT K H a xs ∧ xs.length = i⟩
theorem apart_e {h : Heap} {a e it t : Addr} {i j : Nat} {k : Int} {old : Value} {its : Array Value} (he : IsEnum h e it k old) (hit : h.IsTupleIter it t j) (ht : h.IsTuple a its) : a ≠ e ∧ a ≠ it ∧ e ≠ it := by
  obtain ⟨o, ho, hc, n, hd⟩ := ht
  obtain ⟨o2, ho2, hc2, hd2⟩ := hit
  refine ⟨fun z => ?_, fun z => ?_, fun z => ?_⟩
  · rw [z] at ho
    have e1 := ho.symm.trans he
    rw [Option.some.inj e1] at hc
    exact absurd (Value.type.inj hc) (by decide)
  · rw [z] at ho
    have e1 := ho.symm.trans ho2
    rw [Option.some.inj e1, hc2] at hc
    exact absurd (Value.type.inj hc) (by decide)
  · rw [← z] at ho2
    have e1 := ho2.symm.trans he
    rw [Option.some.inj e1] at hc2
    exact absurd (Value.type.inj hc2) (by decide)
theorem turn_e {P : Program} {w : World} {K : PySem.W.Frag} {elts : List Expr} {kk : Nat} {tpos : Pos} {a e it : Addr} :
    Turn P w K (.Tuple elts kk tpos) (IteT K a) [e, it] e (fun i h => (∃ old, IsEnum h e it ((i : Nat) : Int) old) ∧ h.IsTupleIter it a i) where
  mem := by simp
  obj := fun i h st b hb => by
    obtain ⟨⟨old, he⟩, ⟨o, ho, _, d⟩⟩ := st
    have e' : b = e ∨ b = it := by simpa using hb
    rcases e' with z | z
    · rw [z]; exact ⟨_, he, fun v q => nomatch q⟩
    · rw [z]; exact ⟨o, ho, fun v q => by rw [d] at q; cases q⟩
  keep := fun i h h' st k => by
    obtain ⟨⟨old, he⟩, hit⟩ := st
    exact ⟨⟨old, k e (by simp) _ he⟩, hit.at fun o q => k it (by simp) o q⟩
  item := by
    intro X hP hw hK hc i pins s σ H E I hf st hg
    subst hP hw hK
    obtain ⟨⟨old, he⟩, hit⟩ := st
    obtain ⟨xs, x, hq, hx⟩ := hg
    obtain ⟨its, rv, p, hz⟩ := I.tuple hq
    have ht : s.heap.IsTuple a its.toArray := p
    obtain ⟨h1, h2, h3⟩ := apart_e (i := i) he hit ht
    obtain ⟨u, hu, ru⟩ := rv.get hx
    have D := Draws.tuple (prog := X.prog) (w := X.w) (A := X.A.in1) (I.ok.hd hc) it a h2 its.toArray
    have hlt : i < its.toArray.size := by
      rw [List.size_toArray]
      exact (List.getElem?_eq_some_iff.mp hu).1
    have hel : e < s.heap.objs.size := Heap.lt_size he
    have hil : it < s.heap.objs.size := by obtain ⟨_, q, _⟩ := hit; exact Heap.lt_size q
    refine wpAny_pyNext_enum_itemD D he ⟨hit, ht⟩ hlt h3 (by simp [h3, Ne.symm h1]) fun y h' tk hy ho hst' hT hsz hk => ?_
    have ey : y = u := by
      have hy' : its.toArray[i]? = some y := hy
      rw [List.getElem?_toArray, hu] at hy'
      exact (Option.some.inj hy').symm
    subst ey
    refine ⟨_, rfl, wpAny_letOwnedTupleGo_enum (s := { s with heap := h', toks := tk + 1 }) ho fun h'' he' sb => ?_⟩
    have hT2 : h''.get? s.heap.objs.size = some { cls := .type "tuple", data := .seq #[.int i tk, y] } := (sb.2 _ (Nat.ne_of_gt hel)).trans hT
    have new : ObjOk X.prog X.w (upd H s.heap.objs.size (.tup [.int (i : Nat), x])) h'' s.heap.objs.size (.tup [.int (i : Nat), x]) :=
      ⟨by show 2 ≤ sizeLine; decide, [.int i tk, y], .cons ⟨_, rfl⟩ (.cons ru .nil), ⟨_, hT2, rfl, _, rfl⟩⟩
    have I1 : Inv X pins σ (upd H s.heap.objs.size (.tup [.int (i : Nat), x])) { s with heap := h'', toks := tk + 1 } :=
      I.turnedNew (ch := [e, it]) (fun b ob hb q => (sb.2 b (fun z => hb (by simp [z]))).trans (hk b ob (fun z => hb (by simp [z])) (fun z => hb (by simp [z])) q)) hf (Nat.le_refl _) new
    refine ⟨.ref s.heap.objs.size, _, I1, rfl, ⟨_, x, rfl, I.hok.fresh (Nat.le_refl _), rfl, fun ys hy2 => by rw [I.tuple_inj hy2 hq]; exact hx⟩, ⟨⟨y, ?_⟩, hst'.1.at fun o q => (sb.2 it (Ne.symm h3)).trans q⟩, fun b hb => ?_⟩
    · have e1 : ((i + 1 : Nat) : Int) = (i : Int) + 1 := by omega
      rw [e1]; exact he'
    · have hb' : b < s.heap.objs.size := by
        have e' : b = e ∨ b = it := by simpa using hb
        rcases e' with z | z
        · rw [z]; exact hel
        · rw [z]; exact hil
      rw [upd_ne (Nat.ne_of_lt hb')]
      exact (hf b hb).1
  done := by
    intro X hP hw hK hc i pins s σ H E I hf st hg
    subst hP hw hK
    obtain ⟨⟨old, he⟩, hit⟩ := st
    obtain ⟨xs, hq, hx⟩ := hg
    obtain ⟨its, rv, p, hz⟩ := I.tuple hq
    have ht : s.heap.IsTuple a its.toArray := p
    obtain ⟨h1, h2, h3⟩ := apart_e (i := i) he hit ht
    obtain ⟨f0, f1, f2, f3, f4, f5⟩ := hf it (by simp)
    have D := Draws.tuple (prog := X.prog) (w := X.w) (A := X.A.in1) (I.ok.hd hc) it a h2 its.toArray
    have en : i = its.toArray.size := by rw [List.size_toArray, ← rv.length]; exact hx.symm
    refine wpAny_pyNext_enum_endD D he ⟨by rw [← en]; exact hit, ht⟩ fun h' eb => ⟨rfl, I.turned (t' := s.toks) (fun b o hb q => eb b o hb q) f0 f1 f3 f4 f5⟩
  self := fun A i s Q E st h => let ⟨⟨_, he⟩, _⟩ := st; wpAny_pyIter_enum he h
def iEnumT (K : PySem.W.Frag) (ta : TA) : TI := fun σ H R => ta σ H fun vs H1 => ∃ a xs, vs = [.ref a] ∧ SqT K H1 a xs ∧ R (IteT K a) H1
theorem pi_enumT {X : Cx} {e : Expr} {ta : TA} {p pos tpos : Pos} {elts : List Expr} {kk : Nat} (hg : Gl X "enumerate") (hm : X.mg "enumerate" = none) (ha : PA X [e] ta) (hs : starEach [e] X.env = [(false, eval e X.env)] := by rfl) :
    PI X (.Tuple elts kk tpos) (.Call (.Name "enumerate" p) [e] [] pos) (iEnumT X.K ta) := by
  refine ⟨fun pins s σ H R I h => ?_⟩
  refine Call_ (ld_blt I hg hm boot_enumerate (PyProof.Rows.callWith_type1 (thn (ha.run pos pins s σ H _ I h) fun us s1 ⟨vs, H1, I1, r1, q1⟩ => ?_) hs rfl))
  obtain ⟨a, xs, ex, hq, q⟩ := q1
  subst ex
  cases r1 with
  | cons r rr =>
    cases rr
    cases r
    obtain ⟨its, rv, p', hz⟩ := I1.tuple hq
    refine call_e (begins_tuple a its.toArray) (show s1.heap.IsTuple a its.toArray from p') fun h' he hit hk => wpAny_pyIter_enum he ?_
    have I2 : Inv X pins σ H1 { s1 with heap := h' } := I1.kept (t' := s1.toks) hk
    refine ⟨s1.heap.objs.size + 1, [s1.heap.objs.size + 1, s1.heap.objs.size], _, _, H1, rfl, I2, turn_e (a := a) (e := s1.heap.objs.size + 1) (it := s1.heap.objs.size), ⟨⟨.none, he⟩, ⟨_, hit, rfl, rfl⟩⟩, fun b hb => ?_, q⟩
    have e' : b = s1.heap.objs.size + 1 ∨ b = s1.heap.objs.size := by simpa using hb
    have hle : s1.heap.objs.size ≤ b := by
      rcases e' with z | z
      · rw [z]; exact Nat.le_add_right _ _
      · rw [z]; exact Nat.le_refl _
    exact I1.fpOk hle (I1.hok.fresh hle)
theorem walk_enumT {K : PySem.W.Frag} {a : Addr} {xs : List V} : Walk (IteT K a) xs.length (fun H => SqT K H a xs) (YPair (fun i => some (.int (i : Nat))) (fun i => xs[i]?)) := by
  refine ⟨fun i _ hi q => ⟨xs, xs[i], q, by simp [hi]⟩, fun _ q => ⟨xs, q, rfl⟩, fun i H v H' _ q y => ?_⟩
  obtain ⟨T, x, h1, h2, h3, h4⟩ := y
  exact ⟨T, .int (i : Nat), x, h1, h2, h3, rfl, h4 xs q⟩
end SpE
end

section
set_option Elab.async false
set_option linter.all false
set_option maxRecDepth 100000
set_option maxHeartbeats 4000000
/-! Sparetrees: min(xs), xs a list of tuples of ints. -/
namespace SpM
open PySem PySem.Spec PyProof.Rows L2
section
variable {prog : Program} {w : World} {A : Around} {R : Result → Shared → Prop} {I : Addr} {fp wr : List Addr} {n : Nat} {P : Nat → Value → Prop} {St : Nat → Heap → Prop} {Z : Heap → Prop}
/-- the items compare so while Z stands -/
def CmpZ (prog : Program) (w : World) (A : Around) (Z : Heap → Prop) (P : Nat → Value → Prop) (bt : Nat → Nat → Bool) : Prop :=
  ∀ i j vi vj (s : Shared) (Q : Value → Shared → Prop) (E : Value → Shared → Prop), Z s.heap → P i vi → P j vj → Q (.bool (bt i j)) s → wpAny (model prog w) A (richCompare .Lt vi vj) Q E s
theorem min_loopZ (W : Walks prog w A.in1 I fp wr n P St) (bt : Nat → Nat → Bool) (hcmp : CmpZ prog w A.in1 Z P bt) (S : Addr) (hSf : S ∉ fp) (hZ : ∀ h h', Z h → (∀ b o, b ∉ wr → b ≠ S → h.get? b = some o → h'.get? b = some o) → Z h') :
    ∀ (k j : Nat) (s : Shared) (vb : Value) (c : Nat), n - (j + 1) = k → j + 1 ≤ n → St (j + 1) s.heap → P (argBest bt j) vb → Z s.heap →
    s.heap.get? S = some { cls := .type "list", dict := none, data := .seq #[vb, vb] c, slots := #[] } →
    (∀ v h' tk, P (argBest bt (n - 1)) v → (∀ b o, b ∉ wr → b ≠ S → s.heap.get? b = some o → h'.get? b = some o) → R (.ok (.ret v)) { s with heap := h', toks := tk }) →
    codeAny (model prog w) A (.builtin "min.loop" ⟨[.ref I, .none, .ref S], []⟩) R s := by
  have hSw : S ∉ wr := fun h => hSf (W.sub _ h)
  have hname : (toString "min" ++ toString ".loop" : String) = "min.loop" := by decide
  intro k
  induction k with
  | zero =>
    intro j s vb c hk hj hst hPb hz hS hR
    have hin : j + 1 = n := by omega
    refine codeAny_builtin F.entry_min_loop ?_
    rw [Around.under_plainId F.plain_min_loop _]
    show wpAny _ A.in1 (seqItems? (.ref S) >>= _) _ _ s
    refine wpAny_bind (wpAny_seqItems hS rfl ?_)
    show wpAny _ A.in1 (tryCatch (pyNext (.ref I)) _ >>= _) _ _ s
    refine wpAny_bind (wpAny_tryCatch (W.done s _ _ (hin ▸ hst) fun h' tk hk' => ?_))
    have hS' := hk' S _ hSw hS
    show wpAny _ A.in1 (updateSeq S (fun _ => #[]) >>= _) _ _ _
    refine wpAny_bind ?_
    refine wpAny_updateSeq hS' rfl (wpAny_bind (wpAny_letGo (wpAny_pure ?_)))
    refine hR vb _ tk (by rw [← hin]; exact hPb) fun b o hbw hbS e => (Heap.get?_update_other _ _ (Ne.symm hbS)).trans (hk' b o hbw e)
  | succ k ih =>
    intro j s vb c hk hj hst hPb hz hS hR
    have hlt : j + 1 < n := by omega
    refine codeAny_builtin F.entry_min_loop ?_
    rw [Around.under_plainId F.plain_min_loop _]
    show wpAny _ A.in1 (seqItems? (.ref S) >>= _) _ _ s
    refine wpAny_bind (wpAny_seqItems hS rfl ?_)
    show wpAny _ A.in1 (tryCatch (pyNext (.ref I)) _ >>= _) _ _ s
    refine wpAny_bind (wpAny_tryCatch (W.item (j + 1) s _ _ hlt hst fun v h' tk hP hst' hk' => ?_))
    have hS' := hk' S _ hSw hS
    have hz' : Z h' := hZ _ _ hz fun b o hb _ e => hk' b o hb e
    show wpAny _ A.in1 (tryCatch (holding [v, v] (richCompare .Lt v vb >>= _)) _ >>= _) _ _ _
    refine wpAny_bind (wpAny_tryCatch (wpAny_holding (wpAny_bind (hcmp (j + 1) (argBest bt j) v vb _ _ _ hz' hP hPb ?_))))
    refine wpAny_bind (wpAny_holding (wpAny_truthy_bool ?_))
    refine wpAny_bind (wpAny_letGo (wpAny_pure ?_))
    cases hb : bt (j + 1) (argBest bt j) with
    | true =>
      simp only [if_true]
      refine wpAny_bind ?_
      refine wpAny_updateSeq hS' rfl (wpAny_bind (wpAny_letGo ?_))
      rw [hname]
      refine wpAny_pure ⟨plainId_quiet F.plain_min_loop _, ih (j + 1) _ v _ (by omega) hlt (W.frame _ _ _ hst' fun b hbf o e => ?_) (by simp only [argBest, hb, if_true]; exact hP) (hZ _ _ hz' fun b o _ hbS e => (Heap.get?_update_other _ _ (Ne.symm hbS)).trans e) (Heap.get?_update_self _ hS' rfl)
        fun v' h'' tk'' hP' hk'' => ?_⟩
      · exact (Heap.get?_update_other _ _ (fun h : S = b => hSf (by rw [h]; exact hbf))).trans e
      · exact hR v' h'' tk'' hP' fun b o hbw hbS e => hk'' b o hbw hbS ((Heap.get?_update_other _ _ (Ne.symm hbS)).trans (hk' b o hbw e))
    | false =>
      simp only [Bool.false_eq_true, if_false]
      refine wpAny_bind (wpAny_letGo ?_)
      rw [hname]
      refine wpAny_pure ⟨plainId_quiet F.plain_min_loop _, ih (j + 1) _ vb c (by omega) hlt hst' (by simp only [argBest, hb, Bool.false_eq_true, if_false]; exact hPb) hz' hS' fun v' h'' tk'' hP' hk'' => ?_⟩
      exact hR v' h'' tk'' hP' fun b o hbw hbS e => hk'' b o hbw hbS (hk' b o hbw e)
theorem min_firstZ (W : Walks prog w A.in1 I fp wr n P St) (bt : Nat → Nat → Bool) (hcmp : CmpZ prog w A.in1 Z P bt) (S : Addr) (hSf : S ∉ fp) (hZ : ∀ h h', Z h → (∀ b o, b ∉ wr → b ≠ S → h.get? b = some o → h'.get? b = some o) → Z h') (hn : 0 < n) {s : Shared} {c : Nat} (hst : St 0 s.heap) (hz : Z s.heap)
    (hS : s.heap.get? S = some { cls := .type "list", dict := none, data := .seq #[] c, slots := #[] })
    (hR : ∀ v h' tk, P (argBest bt (n - 1)) v → (∀ b o, b ∉ wr → b ≠ S → s.heap.get? b = some o → h'.get? b = some o) → R (.ok (.ret v)) { s with heap := h', toks := tk }) :
    codeAny (model prog w) A (.builtin "min.loop" ⟨[.ref I, .none, .ref S], []⟩) R s := by
  have hSw : S ∉ wr := fun h => hSf (W.sub _ h)
  have hname : (toString "min" ++ toString ".loop" : String) = "min.loop" := by decide
  refine codeAny_builtin F.entry_min_loop ?_
  rw [Around.under_plainId F.plain_min_loop _]
  show wpAny _ A.in1 (seqItems? (.ref S) >>= _) _ _ s
  refine wpAny_bind (wpAny_seqItems hS rfl ?_)
  show wpAny _ A.in1 (tryCatch (pyNext (.ref I)) _ >>= _) _ _ s
  refine wpAny_bind (wpAny_tryCatch (W.item 0 s _ _ hn hst fun v h' tk hP hst' hk' => ?_))
  have hS' := hk' S _ hSw hS
  have hz' : Z h' := hZ _ _ hz fun b o hb _ e => hk' b o hb e
  show wpAny _ A.in1 (updateSeq S (fun _ => #[v, v]) >>= _) _ _ _
  refine wpAny_bind ?_
  refine wpAny_updateSeq hS' rfl ?_
  rw [hname]
  refine wpAny_pure ⟨plainId_quiet F.plain_min_loop _, min_loopZ W bt hcmp S hSf hZ _ 0 _ v _ rfl hn (W.frame _ _ _ hst' fun b hbf o e => ?_) hP (hZ _ _ hz' fun b o _ hbS e => (Heap.get?_update_other _ _ (Ne.symm hbS)).trans e) (Heap.get?_update_self _ hS' rfl) fun v' h'' tk'' hP' hk'' => ?_⟩
  · exact (Heap.get?_update_other _ _ (fun h : S = b => hSf (by rw [h]; exact hbf))).trans e
  · exact hR v' h'' tk'' hP' fun b o hbw hbS e => hk'' b o hbw hbS ((Heap.get?_update_other _ _ (Ne.symm hbS)).trans (hk' b o hbw e))
end
section
variable {prog : Program} {w : World} {A : Around} {E : Value → Shared → Prop} {s : Shared}
/-- the place of the least -/
theorem best_le {k : Nat → List Int} : ∀ n, argBest (fun i j => HT.lexLt (k i) (k j)) n ≤ n ∧ ∀ j, j ≤ n → HT.lexLt (k j) (k (argBest (fun i j => HT.lexLt (k i) (k j)) n)) = false
  | 0 => ⟨Nat.le_refl _, fun j hj => by
    have e : j = 0 := by omega
    subst e
    exact (NtL.swo_lexL (fun i => k i)).refl 0⟩
  | n + 1 => by
    obtain ⟨h1, h2⟩ := best_le (k := k) n
    have O := NtL.swo_lexL (fun i : Nat => k i)
    cases hb : HT.lexLt (k (n + 1)) (k (argBest (fun i j => HT.lexLt (k i) (k j)) n)) with
    | true =>
      have e : argBest (fun i j => HT.lexLt (k i) (k j)) (n + 1) = n + 1 := by simp only [argBest, hb, if_true]
      rw [e]
      refine ⟨Nat.le_refl _, fun j hj => ?_⟩
      by_cases hj2 : j ≤ n
      · exact O.tr _ _ _ (O.asym _ _ hb) (h2 j hj2)
      · have e2 : j = n + 1 := by omega
        subst e2
        exact O.refl _
    | false =>
      have e : argBest (fun i j => HT.lexLt (k i) (k j)) (n + 1) = argBest (fun i j => HT.lexLt (k i) (k j)) n := by simp only [argBest, hb, Bool.false_eq_true, if_false]
      rw [e]
      refine ⟨Nat.le_succ_of_le h1, fun j hj => ?_⟩
      by_cases hj2 : j ≤ n
      · exact h2 j hj2
      · have e2 : j = n + 1 := by omega
        subst e2
        exact hb
theorem min_tups {l : Addr} {vs : List Value} {k : Value → List Int} {Q : Value → Shared → Prop} (hh : A.handled = none) (hu : A.units + 64 < cLine) (hl : s.heap.IsList l vs.toArray) (hne : vs ≠ []) (ht : ∀ v ∈ vs, TS.TupInts s.heap v (k v))
    (h : ∀ (h' : Heap) (tk : Nat) (v : Value), v ∈ vs → (∀ u ∈ vs, HT.lexLt (k u) (k v) = false) → (∀ b o, s.heap.get? b = some o → h'.get? b = some o) → Q v { s with heap := h', toks := tk }) :
    wpAny (model prog w) A (call (.builtin "min") [.ref l]) Q E s := by
  have hpos : 0 < vs.length := List.length_pos_iff.mpr hne
  have hname : (toString "min" ++ toString ".loop" : String) = "min.loop" := by decide
  refine call_function_tree F.kind_min F.plain_min F.entry_min (F.args_min1 _) ?_
  show wpAny _ A.in1 (Builtin.Builtins.bindParams "min" ["key", "default"] 0 ⟨[], []⟩ >>= _) _ _ s
  refine wpAny_bind (wpAny_of_eq (show Builtin.Builtins.bindParams "min" ["key", "default"] 0 ⟨[], []⟩ = pure [none, none] from rfl) ?_)
  refine wpAny_bind (wpAny_pure ?_)
  refine wpAny_bind (iter_anyList hl fun s₂ e st hfp hlI => ?_)
  subst e
  refine wpAny_bind (wpAny_newObj_type ?_)
  have W : Walks prog w A.in1 s.heap.objs.size [s.heap.objs.size, l] [s.heap.objs.size] vs.toArray.size (fun i v => vs.toArray[i]? = some v) _ := Walks.list (A := A.in1) (show A.in1.handled = none from hh) s.heap.objs.size l hlI vs.toArray
  have hSf : (s.heap.push { cls := .type "list_iterator", data := .fields #[.ref l, .int 0 0] }).objs.size ∉ [s.heap.objs.size, l] := fun hm => Nat.lt_irrefl _ (hfp _ hm)
  have old : ∀ {h h' : Heap}, (∀ v ∈ vs, TS.TupInts h v (k v)) → (∀ b o, s.heap.get? b = some o → h.get? b = some o → h'.get? b = some o) → (∀ b o, s.heap.get? b = some o → h.get? b = some o) → ∀ v ∈ vs, TS.TupInts h' v (k v) := fun {h h'} _ k2 k1 v hv => (ht v hv).keeps fun b o e _ => k2 b o e (k1 b o e)
  rw [hname]
  have hZ : ∀ h h' : Heap, (∀ b o, s.heap.get? b = some o → h.get? b = some o) → (∀ b o, b ∉ [s.heap.objs.size] → b ≠ (s.heap.push { cls := .type "list_iterator", data := .fields #[.ref l, .int 0 0] }).objs.size → h.get? b = some o → h'.get? b = some o) → ∀ b o, s.heap.get? b = some o → h'.get? b = some o := fun h h' z kk b o e => by
    have hlt : b < s.heap.objs.size := Heap.lt_size e
    refine kk b o (by simpa using Nat.ne_of_lt hlt) (Nat.ne_of_lt ?_) (z b o e)
    rw [Heap.size_push]
    exact Nat.lt_succ_of_lt hlt
  refine wpAny_pure ⟨plainId_quiet F.plain_min_loop _, min_firstZ (Z := fun h => ∀ b o, s.heap.get? b = some o → h.get? b = some o) W (fun i j => HT.lexLt (k (vs.getD i .none)) (k (vs.getD j .none))) ?_ _ hSf hZ (by rw [List.size_toArray]; exact hpos) (W.frame _ _ _ st fun b _ o e => Heap.get?_push_of_some _ e) (fun b o e => Heap.get?_push_of_some _ (Heap.get?_push_of_some _ e)) (Heap.get?_push_size _ rfl) fun v h' tk hP hk => ?_⟩
  · intro i j vi vj s' Q' E' z hi hj hq
    have hi' : vs[i]? = some vi := by simpa using hi
    have hj' : vs[j]? = some vj := by simpa using hj
    have t1 := (ht vi (List.mem_of_getElem? hi')).keeps fun b o e _ => z b o e
    have t2 := (ht vj (List.mem_of_getElem? hj')).keeps fun b o e _ => z b o e
    have e1 : vs.getD i .none = vi := by rw [List.getD_eq_getElem?_getD, hi']; rfl
    have e2 : vs.getD j .none = vj := by rw [List.getD_eq_getElem?_getD, hj']; rfl
    dsimp only at hq
    rw [e1, e2] at hq
    obtain ⟨a, xs, rfl, p1, i1⟩ := t1
    obtain ⟨b, ys, rfl, p2, i2⟩ := t2
    exact HT.lt_tupInts p1 p2 i1 i2 (by show A.units + 1 < cLine; omega) hq
  · rw [List.size_toArray] at hP
    have hv : vs[argBest (fun i j => HT.lexLt (k (vs.getD i .none)) (k (vs.getD j .none))) (vs.length - 1)]? = some v := by simpa using hP
    obtain ⟨b1, b2⟩ := best_le (k := fun i => k (vs.getD i .none)) (vs.length - 1)
    refine h h' tk v (List.mem_of_getElem? hv) (fun u hu => ?_) fun b o e => ?_
    · obtain ⟨j, hj, ej⟩ := List.mem_iff_getElem.mp hu
      have q := b2 j (by omega)
      have e1 : vs.getD (argBest (fun i j => HT.lexLt (k (vs.getD i .none)) (k (vs.getD j .none))) (vs.length - 1)) .none = v := by rw [List.getD_eq_getElem?_getD, hv]; rfl
      have e2 : vs.getD j .none = u := by rw [List.getD_eq_getElem?_getD, List.getElem?_eq_getElem hj, ej]; rfl
      rw [e1, e2] at q
      exact q
    · have hlt : b < s.heap.objs.size := Heap.lt_size e
      refine hk b o (by simpa using Nat.ne_of_lt hlt) (Nat.ne_of_lt ?_) (Heap.get?_push_of_some _ (Heap.get?_push_of_some _ e))
      rw [Heap.size_push]
      exact Nat.lt_succ_of_lt hlt
end
/-- min(xs), xs a list of tuples of ints: one of them that none is less than -/
def rMinTT (K : PySem.W.Frag) : List V → Hp → VK → Prop := fun vs H Q => ∃ (a : Addr) (xs : List V) (k : V → List Int), vs = [V.ref a] ∧ SqL K H a xs ∧ xs ≠ [] ∧ (∀ x ∈ xs, ∃ t, x = V.ref t ∧ SqT K H t ((k x).map V.int)) ∧
  ∀ x ∈ xs, (∀ y ∈ xs, HT.lexLt (k y) (k x) = false) → Q x H
theorem cr_minTT {X : Cx} (hc : X.calm = true) (hu : X.A.units + 64 < cLine) : CallR X (.builtin "min") (rMinTT X.K) := by
  intro pins s σ H vs us Q I r h
  obtain ⟨a, xs, k, rfl, hs, hne, hx, q⟩ := h
  obtain ⟨its, rv, hl, hz⟩ := I.list hs
  rw [Vals.ref1 r]
  obtain ⟨e1, e2⟩ := bkV_refs rv fun x m => by
    obtain ⟨t, e, _⟩ := hx x m
    exact ⟨t, e⟩
  have htok : ∀ v ∈ its, TS.TupInts s.heap v (k (bkV v)) := fun v hv => by
    obtain ⟨t, rfl⟩ := e2 v hv
    have hm : V.ref t ∈ xs := by rw [e1]; exact List.mem_map.mpr ⟨_, hv, rfl⟩
    obtain ⟨t', e, ht⟩ := hx _ hm
    cases e
    exact tupI_raw I ht
  refine min_tups (k := fun v => k (bkV v)) (I.ok.hd hc) hu hl.isList (fun z => hne ?_) htok fun h' tk v hv hmin hk => ?_
  · rw [e1, z]; rfl
  · obtain ⟨t, rfl⟩ := e2 v hv
    have hm : V.ref t ∈ xs := by rw [e1]; exact List.mem_map.mpr ⟨_, hv, rfl⟩
    refine ⟨.ref t, H, I.kept hk, rfl, q _ hm fun y hy => ?_⟩
    rw [e1] at hy
    obtain ⟨u, hu2, eu⟩ := List.mem_map.mp hy
    have := hmin u hu2
    rw [eu] at this
    exact this
end SpM
end

section
set_option autoImplicit false
set_option linter.all false
/-! Sparetrees, the plain law: choices, lots, counting. -/
namespace Sp
/-! ### choices of r things, in order -/
def combs {α : Type} : List α → Nat → List (List α)
  | _, 0 => [[]]
  | [], _ + 1 => []
  | x :: xs, r + 1 => (combs xs r).map (x :: ·) ++ combs xs (r + 1)
theorem combs_mem {α : Type} : ∀ (xs : List α) (r : Nat) (s : List α), s ∈ combs xs r ↔ s.Sublist xs ∧ s.length = r
  | xs, 0, s => by
    cases xs <;> simp only [combs, List.mem_singleton]
    · constructor
      · rintro rfl; exact ⟨List.Sublist.slnil, rfl⟩
      · rintro ⟨_, h⟩; exact List.length_eq_zero_iff.mp h
    · constructor
      · rintro rfl; exact ⟨List.nil_sublist _, rfl⟩
      · rintro ⟨_, h⟩; exact List.length_eq_zero_iff.mp h
  | [], r + 1, s => by
    simp only [combs, List.not_mem_nil, false_iff]
    rintro ⟨h, h2⟩
    rw [List.sublist_nil.mp h] at h2; cases h2
  | x :: xs, r + 1, s => by
    simp only [combs, List.mem_append, List.mem_map]
    rw [combs_mem xs (r + 1) s, List.sublist_cons_iff]
    constructor
    · rintro (⟨t, ht, rfl⟩ | ⟨h, h2⟩)
      · obtain ⟨h1, h2⟩ := (combs_mem xs r t).mp ht
        exact ⟨.inr ⟨t, rfl, h1⟩, by rw [List.length_cons, h2]⟩
      · exact ⟨.inl h, h2⟩
    · rintro ⟨h | ⟨t, rfl, h⟩, h2⟩
      · exact .inr ⟨h, h2⟩
      · exact .inl ⟨t, (combs_mem xs r t).mpr ⟨h, by rw [List.length_cons] at h2; omega⟩, rfl⟩
theorem combs_nodup {α : Type} : ∀ (xs : List α) (r : Nat), xs.Nodup → (combs xs r).Nodup
  | [], 0, _ => by simp [combs]
  | x :: xs, 0, _ => by simp [combs]
  | [], r + 1, _ => by simp [combs]
  | x :: xs, r + 1, h => by
    obtain ⟨h1, h2⟩ := List.nodup_cons.mp h
    rw [combs]
    refine List.nodup_append.mpr ⟨?_, combs_nodup xs (r + 1) h2, ?_⟩
    · rw [List.Nodup, List.pairwise_map]
      exact (combs_nodup xs r h2).imp fun hab z => hab (by injection z)
    · intro a ha b hb hab
      obtain ⟨t, ht, rfl⟩ := List.mem_map.mp ha
      subst hab
      exact h1 (((combs_mem xs (r + 1) _).mp hb).1.subset List.mem_cons_self)
theorem combs_map {α β : Type} (f : α → β) : ∀ (xs : List α) (r : Nat), combs (xs.map f) r = (combs xs r).map (·.map f)
  | [], 0 => rfl
  | x :: xs, 0 => rfl
  | [], r + 1 => rfl
  | x :: xs, r + 1 => by
    rw [List.map_cons, combs, combs, combs_map f xs r, combs_map f xs (r + 1), List.map_append, List.map_map, List.map_map]
    congr 1
/-- _law_chosen's rows -/
def rows {α : Type} (r : Nat) (xs : List α) : List (List α) := xs.foldl (fun f x => f ++ (f.filter fun s => decide (s.length < r)).map (· ++ [x])) [[]]
def chosen {α : Type} (xs : List α) (r : Nat) : List (List α) := (rows r xs).filter fun s => decide (s.length = r)
theorem rows_snoc {α : Type} (r : Nat) (xs : List α) (x : α) : rows r (xs ++ [x]) = rows r xs ++ ((rows r xs).filter fun s => decide (s.length < r)).map (· ++ [x]) := by
  unfold rows; rw [List.foldl_append]; rfl
theorem snoc_ind {α : Type} {p : List α → Prop} (h0 : p []) (hs : ∀ xs x, p xs → p (xs ++ [x])) (xs : List α) : p xs := by
  have : ∀ n (xs : List α), xs.length = n → p xs := by
    intro n
    induction n with
    | zero => intro xs h; rw [List.length_eq_zero_iff.mp h]; exact h0
    | succ n ih =>
      intro xs h
      have hne : xs ≠ [] := by rintro rfl; cases h
      rw [← List.dropLast_concat_getLast hne]
      exact hs _ _ (ih _ (by rw [List.length_dropLast]; omega))
  exact this _ xs rfl
theorem rows_mem {α : Type} (r : Nat) (xs : List α) : ∀ s, s ∈ rows r xs ↔ s.Sublist xs ∧ s.length ≤ r := by
  refine snoc_ind (p := fun xs => ∀ s, s ∈ rows r xs ↔ s.Sublist xs ∧ s.length ≤ r) ?_ ?_ xs
  · intro s
    show s ∈ [[]] ↔ _
    rw [List.mem_singleton, List.sublist_nil]
    constructor
    · rintro rfl; exact ⟨rfl, Nat.zero_le _⟩
    · exact fun h => h.1
  · intro xs x ih s
    rw [rows_snoc, List.mem_append, ih s, List.mem_map, List.sublist_append_iff]
    constructor
    · rintro (⟨h1, h2⟩ | ⟨t, ht, rfl⟩)
      · exact ⟨⟨s, [], by simp, h1, List.nil_sublist _⟩, h2⟩
      · obtain ⟨h1, h2⟩ := List.mem_filter.mp ht
        have h3 := of_decide_eq_true h2
        exact ⟨⟨t, [x], rfl, ((ih t).mp h1).1, List.Sublist.refl _⟩, by rw [List.length_append, List.length_singleton]; omega⟩
    · rintro ⟨⟨a, b, rfl, h1, h2⟩, h3⟩
      rw [List.length_append] at h3
      have h2' : b = [] ∨ b = [x] := by
        rcases List.sublist_cons_iff.mp h2 with h | ⟨q, rfl, h⟩
        · exact .inl (List.sublist_nil.mp h)
        · exact .inr (by rw [List.sublist_nil.mp h])
      rcases h2' with rfl | rfl
      · exact .inl ⟨by rw [List.append_nil]; exact h1, by rw [List.append_nil]; omega⟩
      · rw [List.length_singleton] at h3
        exact .inr ⟨a, List.mem_filter.mpr ⟨(ih a).mpr ⟨h1, by omega⟩, decide_eq_true (by omega)⟩, rfl⟩
theorem rows_nodup {α : Type} (r : Nat) (xs : List α) : xs.Nodup → (rows r xs).Nodup := by
  refine snoc_ind (p := fun xs => xs.Nodup → (rows r xs).Nodup) (fun _ => by show ([[]] : List (List α)).Nodup; simp) ?_ xs
  intro xs x ih h
  obtain ⟨h1, _, h2⟩ := List.nodup_append.mp h
  rw [rows_snoc]
  refine List.nodup_append.mpr ⟨ih h1, ?_, ?_⟩
  · rw [List.Nodup, List.pairwise_map]
    exact ((ih h1).sublist List.filter_sublist).imp fun hab z => hab (List.append_cancel_right z)
  · intro a ha b hb hab
    obtain ⟨t, ht, rfl⟩ := List.mem_map.mp hb
    subst hab
    exact h2 x (((rows_mem r xs _).mp ha).1.subset (List.mem_append_right _ (List.mem_singleton.mpr rfl))) x (List.mem_singleton.mpr rfl) rfl
theorem chosen_perm {α : Type} [DecidableEq α] (xs : List α) (r : Nat) (h : xs.Nodup) : (chosen xs r).Perm (combs xs r) := by
  refine (List.perm_ext_iff_of_nodup ((rows_nodup r xs h).sublist List.filter_sublist) (combs_nodup xs r h)).mpr fun s => ?_
  rw [List.mem_filter, rows_mem, combs_mem, decide_eq_true_iff]
  constructor
  · rintro ⟨⟨h1, _⟩, h2⟩; exact ⟨h1, h2⟩
  · rintro ⟨h1, h2⟩; exact ⟨⟨h1, by omega⟩, h2⟩
theorem rows_len {α : Type} (r : Nat) (xs : List α) : (rows r xs).length ≤ 2 ^ xs.length := by
  refine snoc_ind (p := fun xs => (rows r xs).length ≤ 2 ^ xs.length) (by show 1 ≤ 2 ^ 0; decide) ?_ xs
  intro xs x ih
  rw [rows_snoc, List.length_append, List.length_map, List.length_append, List.length_singleton, Nat.pow_succ]
  have := List.length_filter_le (fun s : List α => decide (s.length < r)) (rows r xs)
  omega
/-! ### one of each -/
def prods (ws : List (List Nat)) : List (List Nat) := ws.foldl (fun acc w => acc.flatMap fun x => w.map fun l => x ++ [l]) [[]]
theorem prods_snoc (ws : List (List Nat)) (w : List Nat) : prods (ws ++ [w]) = (prods ws).flatMap fun x => w.map fun l => x ++ [l] := by
  unfold prods; rw [List.foldl_append]; rfl
def PL : List Nat → Nat
  | [] => 1
  | x :: xs => x * PL xs
def PS1 : List Nat → Nat
  | [] => 1
  | x :: xs => (x + 1) * PS1 xs
def prd (xs : List Nat) : Nat := xs.foldl (fun a x => a * (x + 1)) 1
theorem prd_eq (xs : List Nat) : prd xs = PS1 xs := by
  have : ∀ (xs : List Nat) a, xs.foldl (fun a x => a * (x + 1)) a = a * PS1 xs := by
    intro xs
    induction xs with
    | nil => intro a; rw [PS1, Nat.mul_one]; rfl
    | cons x xs ih => intro a; rw [List.foldl_cons, ih, PS1, Nat.mul_assoc]
  unfold prd; rw [this, Nat.one_mul]
theorem prd_snoc (xs : List Nat) (x : Nat) : prd (xs ++ [x]) = prd xs * (x + 1) := by
  unfold prd; rw [List.foldl_append]; rfl
theorem PS1_pos (xs : List Nat) : 1 ≤ PS1 xs := by
  induction xs with
  | nil => exact Nat.le_refl _
  | cons x xs ih => rw [PS1]; exact Nat.mul_le_mul (by omega : 1 ≤ x + 1) ih
theorem PL_le (xs : List Nat) : PL xs ≤ PS1 xs := by
  induction xs with
  | nil => exact Nat.le_refl _
  | cons x xs ih => rw [PL, PS1]; exact Nat.mul_le_mul (by omega) ih
theorem PL_snoc (xs : List Nat) (x : Nat) : PL (xs ++ [x]) = PL xs * x := by
  induction xs with
  | nil => show x * 1 = 1 * x; omega
  | cons y xs ih => rw [List.cons_append, PL, PL, ih, Nat.mul_assoc]
theorem PS1_append (xs ys : List Nat) : PS1 (xs ++ ys) = PS1 xs * PS1 ys := by
  induction xs with
  | nil => show PS1 ys = 1 * PS1 ys; omega
  | cons x xs ih => rw [List.cons_append, PS1, PS1, ih, Nat.mul_assoc]
theorem PS1_sub {xs ys : List Nat} (h : xs.Sublist ys) : PS1 xs ≤ PS1 ys := by
  induction h with
  | slnil => exact Nat.le_refl _
  | cons a _ ih => rw [PS1]; exact Nat.le_trans ih (Nat.le_mul_of_pos_left _ (by omega))
  | cons_cons a _ ih => rw [PS1, PS1]; exact Nat.mul_le_mul (Nat.le_refl _) ih
theorem prods_len (ws : List (List Nat)) : (prods ws).length = PL (ws.map List.length) := by
  refine snoc_ind (p := fun ws => (prods ws).length = PL (ws.map List.length)) rfl ?_ ws
  intro ws w ih
  rw [prods_snoc, List.map_append, List.map_cons, List.map_nil, PL_snoc, ← ih]
  generalize prods ws = acc
  induction acc with
  | nil => simp
  | cons a acc ih2 => rw [List.flatMap_cons, List.length_append, List.length_map, ih2, List.length_cons, Nat.succ_mul]; omega
theorem prods_pre (ws : List (List Nat)) (i : Nat) : (prods (ws.take i)).length ≤ PS1 (ws.map List.length) := by
  rw [prods_len]
  refine Nat.le_trans (PL_le _) (PS1_sub ?_)
  exact (List.take_sublist i ws).map _
theorem prods_mem (ws : List (List Nat)) : ∀ x, x ∈ prods ws ↔ x.length = ws.length ∧ ∀ (j : Nat) (l : Nat) (w : List Nat), x[j]? = some l → ws[j]? = some w → l ∈ w := by
  refine snoc_ind (p := fun ws => ∀ x, x ∈ prods ws ↔ x.length = ws.length ∧ ∀ (j : Nat) (l : Nat) (w : List Nat), x[j]? = some l → ws[j]? = some w → l ∈ w) ?_ ?_ ws
  · intro x
    show x ∈ [[]] ↔ _
    rw [List.mem_singleton]
    constructor
    · rintro rfl; exact ⟨rfl, fun j l w h => by simp at h⟩
    · rintro ⟨h, _⟩; exact List.length_eq_zero_iff.mp h
  · intro ws w ih x
    rw [prods_snoc, List.mem_flatMap]
    constructor
    · rintro ⟨y, hy, hx⟩
      obtain ⟨l, hl, rfl⟩ := List.mem_map.mp hx
      obtain ⟨h1, h2⟩ := (ih y).mp hy
      refine ⟨by rw [List.length_append, List.length_append, h1]; rfl, fun j l' w' hj hw => ?_⟩
      by_cases hlt : j < y.length
      · rw [List.getElem?_append_left hlt] at hj
        rw [List.getElem?_append_left (by omega)] at hw
        exact h2 j l' w' hj hw
      · rw [List.getElem?_append_right (by omega)] at hj hw
        rw [h1] at hj
        cases hz : j - ws.length with
        | zero => rw [hz] at hj hw; simp at hj hw; rw [← hj, ← hw]; exact hl
        | succ z => rw [hz] at hj; simp at hj
    · rintro ⟨h1, h2⟩
      rw [List.length_append, List.length_singleton] at h1
      have hne : x ≠ [] := by rintro rfl; cases h1
      refine ⟨x.dropLast, (ih _).mpr ⟨by rw [List.length_dropLast]; omega, fun j l w' hj hw => ?_⟩, ?_⟩
      · have hlt : j < ws.length := (List.getElem?_eq_some_iff.mp hw).1
        refine h2 j l w' ?_ (by rw [List.getElem?_append_left hlt]; exact hw)
        rw [← List.dropLast_concat_getLast hne, List.getElem?_append_left (by rw [List.length_dropLast]; omega)]
        exact hj
      · refine List.mem_map.mpr ⟨x.getLast hne, h2 ws.length _ w ?_ ?_, List.dropLast_concat_getLast hne⟩
        · rw [List.getLast_eq_getElem, ← List.getElem?_eq_getElem]
          congr 1; omega
        · rw [List.getElem?_append_right (Nat.le_refl _), Nat.sub_self]; rfl
/-- how many there are of all choices -/
theorem combs_total : ∀ (ws : List (List Nat)) (r : Nat), ((combs ws r).flatMap prods).length ≤ PS1 (ws.map List.length) := by
  have key : ∀ (ws : List (List Nat)) (r : Nat), ((combs ws r).map fun c => PL (c.map List.length)).sum ≤ PS1 (ws.map List.length) := by
    intro ws
    induction ws with
    | nil =>
      intro r
      cases r with
      | zero => decide
      | succ r => exact Nat.zero_le _
    | cons w ws ih =>
      intro r
      cases r with
      | zero =>
        show 1 + 0 ≤ _
        exact PS1_pos _
      | succ r =>
        rw [combs, List.map_append, List.sum_append, List.map_map, List.map_cons, PS1]
        have h1 := ih r
        have h2 := ih (r + 1)
        have e : ((combs ws r).map ((fun c => PL (c.map List.length)) ∘ fun x => w :: x)).sum = w.length * ((combs ws r).map fun c => PL (c.map List.length)).sum := by
          generalize combs ws r = cs
          induction cs with
          | nil => simp
          | cons c cs ih2 => rw [List.map_cons, List.map_cons, List.sum_cons, List.sum_cons, ih2, Nat.mul_add]; rfl
        rw [e, Nat.succ_mul]
        exact Nat.add_le_add (Nat.mul_le_mul (Nat.le_refl _) h1) h2
  intro ws r
  refine Nat.le_trans (Nat.le_of_eq ?_) (key ws r)
  rw [List.length_flatMap]
  congr 1
  exact List.map_congr_left fun c _ => prods_len c
/-! ### the ways, what is met -/
abbrev ways (n r : Nat) (L : List Lk) (t : List (List Nat)) (p : Nat) : List (List Nat) := t.map fun x => way n r L x p
abbrev meets (lo : List Nat) (w : List Nat) : Bool := w.any fun i => decide (i ∈ lo)
def cut (W : List (List Nat)) (lo : List Nat) : Nat := (W.filter (meets lo)).length
def cutN (n r : Nat) (L : List Lk) (t : List (List Nat)) (p : Nat) (lo : List Nat) : Nat := cut (ways n r L t p) lo
def stopB (n r : Nat) (L : List Lk) (t : List (List Nat)) (k p : Nat) (lo : List Nat) : Bool := decide (t.length < cutN n r L t p lo + k)
def prN (n r : Nat) (L : List Lk) (t : List (List Nat)) (p : Nat) : Nat := prd (t.map fun x => (way n r L x p).length)
theorem cut_range (W : List (List Nat)) (lo : List Nat) : cut W lo = ((List.range W.length).filter fun j => meets lo (W.getD j [])).length := by
  have e : W = (List.range W.length).map fun j => W.getD j [] := by
    apply List.ext_getElem?
    intro j
    rw [List.getElem?_map]
    by_cases h : j < W.length
    · rw [List.getElem?_range h, Option.map_some, List.getD_eq_getElem?_getD, List.getElem?_eq_getElem h]; rfl
    · rw [List.getElem?_eq_none (by omega), List.getElem?_eq_none (by rw [List.length_range]; omega)]; rfl
  unfold cut
  conv => lhs; rw [e]
  rw [List.filter_map, List.length_map]
  rfl
theorem meets_iff {lo w : List Nat} : meets lo w = true ↔ ∃ i, i ∈ w ∧ i ∈ lo := by
  unfold meets
  rw [List.any_eq_true]
  constructor
  · rintro ⟨i, h1, h2⟩; exact ⟨i, h1, of_decide_eq_true h2⟩
  · rintro ⟨i, h1, h2⟩; exact ⟨i, h1, decide_eq_true h2⟩
/-- no link in two -/
def Disj (W : List (List Nat)) : Prop := ∀ i j l, l ∈ W.getD i [] → l ∈ W.getD j [] → i = j
/-- a choice: the ways a, of each a link -/
structure Pick (W : List (List Nat)) (c : Nat) (a x : List Nat) : Prop where
  sub : a.Sublist (List.range W.length)
  len : a.length = c
  xlen : x.length = c
  mem : ∀ (j l i : Nat), x[j]? = some l → a[j]? = some i → l ∈ W.getD i []
theorem Pick.nodup {W : List (List Nat)} {c : Nat} {a x : List Nat} (D : Disj W) (h : Pick W c a x) : x.Nodup := by
  rw [List.Nodup, List.pairwise_iff_getElem]
  intro i j hi hj hij e
  have hia : i < a.length := by rw [h.len, ← h.xlen]; exact hi
  have hja : j < a.length := by rw [h.len, ← h.xlen]; exact hj
  have h1 := h.mem i _ _ (List.getElem?_eq_getElem hi) (List.getElem?_eq_getElem hia)
  have h2 := h.mem j _ _ (List.getElem?_eq_getElem hj) (List.getElem?_eq_getElem hja)
  rw [e] at h1
  have h3 := D _ _ _ h1 h2
  have nd : a.Nodup := h.sub.nodup List.nodup_range
  have := (List.pairwise_iff_getElem.mp nd) i j hia hja hij
  exact this h3
theorem Pick.of {W : List (List Nat)} {c : Nat} {a x : List Nat} (h : Pick W c a x) {l : Nat} (hl : l ∈ x) : ∃ (j i : Nat), x[j]? = some l ∧ a[j]? = some i ∧ l ∈ W.getD i [] ∧ i ∈ a := by
  obtain ⟨j, hj, e⟩ := List.getElem_of_mem hl
  have hja : j < a.length := by rw [h.len, ← h.xlen]; exact hj
  have h0 : x[j]? = some l := by rw [List.getElem?_eq_getElem hj, e]
  exact ⟨j, a[j], h0, List.getElem?_eq_getElem hja, h.mem j l _ h0 (List.getElem?_eq_getElem hja), List.getElem_mem hja⟩
theorem Pick.full {W : List (List Nat)} {c : Nat} {a x lo : List Nat} (h : Pick W c a x) (hx : ∀ l ∈ x, l ∈ lo) : c ≤ cut W lo := by
  rw [cut_range, ← h.len]
  refine (h.sub.nodup List.nodup_range).length_le_of_subset fun i hi => ?_
  refine List.mem_filter.mpr ⟨h.sub.subset hi, meets_iff.mpr ?_⟩
  obtain ⟨j, hj, e⟩ := List.getElem_of_mem hi
  have hjx : j < x.length := by rw [h.xlen, ← h.len]; exact hj
  exact ⟨x[j], h.mem j _ _ (List.getElem?_eq_getElem hjx) (by rw [List.getElem?_eq_getElem hj, e]), hx _ (List.getElem_mem hjx)⟩
theorem Pick.less {W : List (List Nat)} {c : Nat} {a x lo : List Nat} (D : Disj W) (h : Pick W c a x) {l0 : Nat} (h0 : l0 ∈ x) (hx : ∀ l ∈ lo, l ∈ x ∧ l ≠ l0) : cut W lo < c := by
  obtain ⟨j0, i0, hj0, hi0, hm0, hia⟩ := h.of h0
  have nd : a.Nodup := h.sub.nodup List.nodup_range
  rw [cut_range]
  have h1 : ((List.range W.length).filter fun j => meets lo (W.getD j [])).length ≤ (a.erase i0).length := by
    refine (List.nodup_range.sublist List.filter_sublist).length_le_of_subset fun i hi => ?_
    obtain ⟨_, hi2⟩ := List.mem_filter.mp hi
    obtain ⟨l, hl1, hl2⟩ := meets_iff.mp hi2
    obtain ⟨hlx, hne⟩ := hx l hl2
    obtain ⟨j, i', hj, hi', hm, hia'⟩ := h.of hlx
    have : i = i' := D _ _ _ hl1 hm
    subst this
    refine (List.mem_erase_of_ne ?_).mpr hia'
    rintro rfl
    -- the same way: the same place in a
    have e : j = j0 := by
      obtain ⟨q1, e1⟩ := List.getElem?_eq_some_iff.mp hi'
      obtain ⟨q2, e2⟩ := List.getElem?_eq_some_iff.mp hi0
      have pw := List.pairwise_iff_getElem.mp nd
      rcases Nat.lt_trichotomy j j0 with h | h | h
      · exact absurd (e1.trans e2.symm) (pw j j0 q1 q2 h)
      · exact h
      · exact absurd (e2.trans e1.symm) (pw j0 j q2 q1 h)
    subst e
    rw [hj] at hj0
    exact hne (Option.some.inj hj0)
  have h2 := List.length_erase_of_mem hia
  have := h.len
  have h3 : 0 < a.length := List.length_pos_of_mem hia
  omega
/-- enough ways are met: a choice within -/
theorem pick_of_cut {W : List (List Nat)} {c : Nat} {lo : List Nat} (h : c ≤ cut W lo) : ∃ a x, Pick W c a x ∧ ∀ l ∈ x, l ∈ lo := by
  rw [cut_range] at h
  refine ⟨((List.range W.length).filter fun j => meets lo (W.getD j [])).take c, (((List.range W.length).filter fun j => meets lo (W.getD j [])).take c).map fun i => ((W.getD i []).filter fun l => decide (l ∈ lo)).headD 0, ⟨?_, ?_, ?_, ?_⟩, ?_⟩
  · exact (List.take_sublist _ _).trans List.filter_sublist
  · rw [List.length_take]; omega
  · rw [List.length_map, List.length_take]; omega
  all_goals
    have key : ∀ i ∈ ((List.range W.length).filter fun j => meets lo (W.getD j [])).take c, ((W.getD i []).filter fun l => decide (l ∈ lo)).headD 0 ∈ (W.getD i []).filter fun l => decide (l ∈ lo) := by
      intro i hi
      obtain ⟨_, h2⟩ := List.mem_filter.mp (List.mem_of_mem_take hi)
      obtain ⟨l, h3, h4⟩ := meets_iff.mp h2
      have h5 : l ∈ (W.getD i []).filter fun l => decide (l ∈ lo) := List.mem_filter.mpr ⟨h3, decide_eq_true h4⟩
      cases hq : (W.getD i []).filter fun l => decide (l ∈ lo) with
      | nil => rw [hq] at h5; cases h5
      | cons a b => exact List.mem_cons_self
  · intro j l i hj hi
    rw [List.getElem?_map, hi] at hj
    have := key i (List.mem_of_getElem? hi)
    rw [← Option.some.inj hj]
    exact (List.mem_filter.mp this).1
  · intro l hl
    obtain ⟨i, hi, rfl⟩ := List.mem_map.mp hl
    exact of_decide_eq_true (List.mem_filter.mp (key i hi)).2
end Sp
end

section
set_option autoImplicit false
set_option linter.all false
/-! Sparetrees, the plain law: the least lots. -/
namespace Sp
/-! ### sorted -/
def srt (x : List Nat) : List Nat := x.mergeSort fun a b => decide (a ≤ b)
theorem srt_perm (x : List Nat) : (srt x).Perm x := List.mergeSort_perm _ _
theorem srt_sorted (x : List Nat) : (srt x).Pairwise (· ≤ ·) := by
  have h := List.pairwise_mergeSort (le := fun a b : Nat => decide (a ≤ b)) (fun a b c h1 h2 => by
    have := of_decide_eq_true h1; have := of_decide_eq_true h2; exact decide_eq_true (by omega)) (fun a b => by
    by_cases h : a ≤ b
    · rw [decide_eq_true h]; rfl
    · rw [decide_eq_true (by omega : b ≤ a), Bool.or_true]) x
  exact h.imp fun h => of_decide_eq_true h
theorem srt_uniq {x y : List Nat} (h : y.Perm x) (hs : y.Pairwise (· ≤ ·)) : y = srt x :=
  List.Perm.eq_of_pairwise (le := fun a b : Nat => a ≤ b) (fun a b _ _ h1 h2 => Nat.le_antisymm h1 h2) hs (srt_sorted x) (h.trans (srt_perm x).symm)
abbrev keyN (x : List Nat) : List Int := x.map fun n : Nat => (n : Int)
theorem keyN_inj : ∀ {x y : List Nat}, keyN x = keyN y → x = y
  | [], [], _ => rfl
  | [], _ :: _, h => by cases h
  | _ :: _, [], h => by cases h
  | a :: x, b :: y, h => by
    injection h with h1 h2
    rw [Int.ofNat_inj.mp h1, keyN_inj h2]
theorem lex_anti : ∀ {x y : List Int}, HT.lexLt x y = false → HT.lexLt y x = false → x = y
  | [], [], _, _ => rfl
  | [], _ :: _, h, _ => by cases h
  | _ :: _, [], _, h => by cases h
  | a :: x, b :: y, h1, h2 => by
    rw [HT.lexLt_cons] at h1 h2
    by_cases e : a = b
    · subst e
      rw [if_pos rfl] at h1 h2
      rw [lex_anti h1 h2]
    · rw [if_neg e] at h1
      rw [if_neg fun z => e z.symm] at h2
      have := of_decide_eq_false h1; have := of_decide_eq_false h2
      omega
def Lexd (S : List (List Nat)) : Prop := S.Pairwise fun x y => HT.lexLt (keyN y) (keyN x) = false
theorem lexd_uniq {S S' : List (List Nat)} (h : S.Perm S') (h1 : Lexd S) (h2 : Lexd S') : S = S' :=
  List.Perm.eq_of_pairwise (le := fun x y => HT.lexLt (keyN y) (keyN x) = false) (fun a b _ _ h1 h2 => keyN_inj (lex_anti h2 h1)) h1 h2 h
/-! ### all lots -/
def rawOf (cs : List (List (List Nat))) : List (List Nat) := cs.flatMap fun C => (prods C).map srt
def raw (W : List (List Nat)) (c : Nat) : List (List Nat) := rawOf (combs W c)
theorem rawOf_len (cs : List (List (List Nat))) : (rawOf cs).length = (cs.flatMap prods).length := by
  unfold rawOf
  rw [List.length_flatMap, List.length_flatMap]
  congr 1
  exact List.map_congr_left fun C _ => by rw [List.length_map]
theorem raw_len (W : List (List Nat)) (c : Nat) : (raw W c).length ≤ PS1 (W.map List.length) := by
  unfold raw; rw [rawOf_len]; exact combs_total W c
theorem rawOf_take (cs : List (List (List Nat))) (i : Nat) : (rawOf (cs.take i)).length ≤ (rawOf cs).length := by
  conv => rhs; rw [← List.take_append_drop i cs]
  unfold rawOf
  rw [List.flatMap_append, List.length_append]
  omega
theorem rawOf_perm {cs ds : List (List (List Nat))} (h : cs.Perm ds) : (rawOf cs).Perm (rawOf ds) := h.flatMap_right _
theorem range_get (W : List (List Nat)) : (List.range W.length).map (fun j => W.getD j []) = W := by
  apply List.ext_getElem?
  intro j
  rw [List.getElem?_map]
  by_cases h : j < W.length
  · rw [List.getElem?_range h, Option.map_some, List.getD_eq_getElem?_getD, List.getElem?_eq_getElem h]; rfl
  · rw [List.getElem?_eq_none (by rw [List.length_range]; omega), List.getElem?_eq_none (by omega)]; rfl
abbrev pickW (W : List (List Nat)) (a : List Nat) : List (List Nat) := a.map fun j => W.getD j []
theorem combs_W (W : List (List Nat)) (c : Nat) : combs W c = (combs (List.range W.length) c).map (pickW W) := by
  conv => lhs; rw [← range_get W]
  rw [combs_map]
theorem raw_pick {W : List (List Nat)} {c : Nat} {x : List Nat} : x ∈ raw W c ↔ ∃ a y, Pick W c a y ∧ x = srt y := by
  unfold raw rawOf
  rw [combs_W, List.mem_flatMap]
  constructor
  · rintro ⟨C, hC, hx⟩
    obtain ⟨a, ha, rfl⟩ := List.mem_map.mp hC
    obtain ⟨y, hy, rfl⟩ := List.mem_map.mp hx
    obtain ⟨h1, h2⟩ := (combs_mem _ _ _).mp ha
    obtain ⟨h3, h4⟩ := (prods_mem _ _).mp hy
    rw [List.length_map] at h3
    exact ⟨a, y, ⟨h1, h2, by omega, fun j l i hj hi => h4 j l _ hj (by rw [List.getElem?_map, hi]; rfl)⟩, rfl⟩
  · rintro ⟨a, y, p, rfl⟩
    refine ⟨pickW W a, List.mem_map.mpr ⟨a, (combs_mem _ _ _).mpr ⟨p.sub, p.len⟩, rfl⟩, List.mem_map.mpr ⟨y, (prods_mem _ _).mpr ⟨by rw [List.length_map, p.xlen, p.len], fun j l w hj hw => ?_⟩, rfl⟩⟩
    rw [List.getElem?_map] at hw
    obtain ⟨i, hi, rfl⟩ := Option.map_eq_some_iff.mp hw
    exact p.mem j l i hj hi
theorem raw_asc {W : List (List Nat)} {c : Nat} {x : List Nat} (D : Disj W) (h : x ∈ raw W c) : x.Pairwise (· < ·) := by
  obtain ⟨a, y, p, rfl⟩ := raw_pick.mp h
  have nd : (srt y).Nodup := (srt_perm y).nodup_iff.mpr (p.nodup D)
  exact (srt_sorted y).imp₂ (fun {a b} h1 h2 => Nat.lt_of_le_of_ne h1 h2) nd
theorem raw_in {W : List (List Nat)} {c : Nat} {x : List Nat} (h : x ∈ raw W c) : ∀ l ∈ x, ∃ w ∈ W, l ∈ w := by
  obtain ⟨a, y, p, rfl⟩ := raw_pick.mp h
  intro l hl
  obtain ⟨j, i, _, _, h3, h4⟩ := p.of ((srt_perm y).mem_iff.mp hl)
  have hi : i < W.length := List.mem_range.mp (p.sub.subset h4)
  rw [List.getD_eq_getElem?_getD, List.getElem?_eq_getElem hi] at h3
  exact ⟨W[i], List.getElem_mem hi, h3⟩
theorem raw_length {W : List (List Nat)} {c : Nat} {x : List Nat} (h : x ∈ raw W c) : x.length = c := by
  obtain ⟨a, y, p, rfl⟩ := raw_pick.mp h
  rw [(srt_perm y).length_eq, p.xlen]
theorem raw_full {W : List (List Nat)} {c : Nat} {x : List Nat} (h : x ∈ raw W c) : c ≤ cut W x := by
  obtain ⟨a, y, p, rfl⟩ := raw_pick.mp h
  exact p.full fun l hl => (srt_perm y).mem_iff.mpr hl
theorem raw_less {W : List (List Nat)} {c : Nat} {x : List Nat} (D : Disj W) (h : x ∈ raw W c) {at_ : Nat} (ha : at_ < x.length) : cut W (x.eraseIdx at_) < c := by
  have asc := raw_asc D h
  obtain ⟨a, y, p, rfl⟩ := raw_pick.mp h
  have nd : (srt y).Nodup := asc.imp fun h => Nat.ne_of_lt h
  refine p.less D (l0 := (srt y)[at_]) ((srt_perm y).mem_iff.mp (List.getElem_mem ha)) fun l hl => ⟨(srt_perm y).mem_iff.mp ((List.eraseIdx_sublist _ _).subset hl), ?_⟩
  rintro rfl
  have h2 : ((srt y)[at_] :: (srt y).eraseIdx at_).Nodup := (erase_perm ha).nodup_iff.mpr nd
  exact (List.nodup_cons.mp h2).1 hl
theorem raw_held {W : List (List Nat)} {c : Nat} {lo : List Nat} : c ≤ cut W lo ↔ ∃ x ∈ raw W c, ∀ l ∈ x, l ∈ lo := by
  constructor
  · intro h
    obtain ⟨a, y, p, hy⟩ := pick_of_cut h
    exact ⟨srt y, raw_pick.mpr ⟨a, y, p, rfl⟩, fun l hl => hy l ((srt_perm y).mem_iff.mp hl)⟩
  · rintro ⟨x, hx, hl⟩
    obtain ⟨a, y, p, rfl⟩ := raw_pick.mp hx
    exact p.full fun l h => hl l ((srt_perm y).mem_iff.mpr h)
theorem raw_ne {W : List (List Nat)} {c : Nat} (hc : c ≤ W.length) (hw : ∀ w ∈ W, w ≠ []) : raw W c ≠ [] := by
  have h : c ≤ cut W W.flatten := by
    have e : W.filter (meets W.flatten) = W := List.filter_eq_self.mpr fun w hww => by
      cases q : w with
      | nil => exact absurd q (hw w hww)
      | cons i r => exact meets_iff.mpr ⟨i, List.mem_cons_self, List.mem_flatten.mpr ⟨w, hww, by rw [q]; exact List.mem_cons_self⟩⟩
    unfold cut; rw [e]; exact hc
  obtain ⟨x, hx, _⟩ := raw_held.mp h
  exact List.ne_nil_of_mem hx
/-- what stops tells -/
structure StopsL (W : List (List Nat)) (c : Nat) (S : List (List Nat)) : Prop where
  perm : S.Perm (raw W c)
  lex : Lexd S
theorem StopsL.uniq {W : List (List Nat)} {c : Nat} {S S' : List (List Nat)} (h : StopsL W c S) (h' : StopsL W c S') : S = S' := lexd_uniq (h.perm.trans h'.perm.symm) h.lex h'.lex
theorem disj_of {t : List (List Nat)} {W : List (List Nat)} (h : t.flatten.Nodup) (hl : W.length = t.length) (hw : ∀ i l, l ∈ W.getD i [] → l ∈ t.getD i []) : Disj W := by
  obtain ⟨_, h2⟩ := List.pairwise_flatten.mp h
  have h3 := List.pairwise_iff_getElem.mp h2
  intro i j l hi hj
  have key : ∀ i, l ∈ W.getD i [] → ∃ h : i < t.length, l ∈ t[i] := by
    intro i hi
    have h1 := hw i l hi
    rw [List.getD_eq_getElem?_getD] at h1
    by_cases h : i < t.length
    · rw [List.getElem?_eq_getElem h] at h1; exact ⟨h, h1⟩
    · rw [List.getElem?_eq_none (by omega)] at h1; cases h1
  obtain ⟨hi1, hi2⟩ := key i hi
  obtain ⟨hj1, hj2⟩ := key j hj
  rcases Nat.lt_trichotomy i j with q | q | q
  · exact absurd rfl (h3 i j hi1 hj1 q l hi2 l hj2)
  · exact q
  · exact absurd rfl (h3 j i hj1 hi1 q l hj2 l hi2)
/-- the first of a sorted list is the least -/
theorem lexd_head {x : List Nat} {S : List (List Nat)} (h : Lexd (x :: S)) : ∀ y ∈ S, HT.lexLt (keyN y) (keyN x) = false := (List.pairwise_cons.mp h).1
theorem min_uniq {xs : List (List Nat)} {a b : List Nat} (ha : a ∈ xs) (hb : b ∈ xs) (h1 : ∀ y ∈ xs, HT.lexLt (keyN y) (keyN a) = false) (h2 : ∀ y ∈ xs, HT.lexLt (keyN y) (keyN b) = false) : a = b := keyN_inj (lex_anti (h2 a ha) (h1 b hb))
end Sp
end

section
set_option autoImplicit false
set_option linter.all false
/-! Sparetrees: itertools.combinations' turns are combs, up to twelve. -/
namespace Sp
open SpC
def sucB (n : Nat) (a b : List Nat) : Bool := (List.range a.length).any fun i => (!Nat.beq (a.getD i 0) (i + n - a.length)) &&
  ((List.range a.length).all (fun j => Nat.ble j i || Nat.beq (a.getD j 0) (j + n - a.length)) && decide (b = a.take i ++ (List.range (a.length - i)).map (fun j => a.getD i 0 + 1 + j)))
theorem suc_of {n : Nat} {a b : List Nat} (h : sucB n a b = true) : SucC n a b := by
  obtain ⟨i, hi, h2⟩ := List.any_eq_true.mp h
  obtain ⟨h3, h4⟩ := Bool.and_eq_true_iff.mp h2
  obtain ⟨h5, h6⟩ := Bool.and_eq_true_iff.mp h4
  refine ⟨i, List.mem_range.mp hi, ?_, fun j hij hj => ?_, of_decide_eq_true h6⟩
  · intro z; rw [z] at h3; simp at h3
  · have := List.all_eq_true.mp h5 j (List.mem_range.mpr hj)
    rcases Bool.or_eq_true_iff.mp this with h | h
    · have := Nat.le_of_ble_eq_true h; omega
    · exact Nat.eq_of_beq_eq_true h
def lastB (n : Nat) (a : List Nat) : Bool := (List.range a.length).all fun i => Nat.beq (a.getD i 0) (i + n - a.length)
def runB (n : Nat) : List Nat → List (List Nat) → Bool
  | a, [] => lastB n a
  | a, b :: r => sucB n a b && runB n b r
def chainB (n r : Nat) (L : List (List Nat)) : Bool := match L with
  | [] => false
  | a :: M => decide (a = List.range r) && (L.all (fun x => Nat.beq x.length r) && runB n a M)
theorem run_suc {n : Nat} : ∀ (M : List (List Nat)) (a : List Nat), runB n a M = true → (∀ (i : Nat) (x y : List Nat), (a :: M)[i]? = some x → (a :: M)[i + 1]? = some y → SucC n x y) ∧ ∀ x, (a :: M)[M.length]? = some x → LastC n x
  | [], a, h => by
    refine ⟨fun i x y _ h2 => by simp at h2, fun x hx => ?_⟩
    have : a = x := by simpa using hx
    subst this
    intro i hi
    exact Nat.eq_of_beq_eq_true (List.all_eq_true.mp h i (List.mem_range.mpr hi))
  | b :: M, a, h => by
    obtain ⟨h1, h2⟩ := Bool.and_eq_true_iff.mp (show (sucB n a b && runB n b M) = true from h)
    obtain ⟨h3, h4⟩ := run_suc M b h2
    refine ⟨fun i x y hx hy => ?_, fun x hx => h4 x (by simpa using hx)⟩
    cases i with
    | zero =>
      have e1 : a = x := by simpa using hx
      have e2 : b = y := by simpa using hy
      subst e1 e2
      exact suc_of h1
    | succ i => exact h3 i x y (by simpa using hx) (by simpa using hy)
theorem chain_of {n r : Nat} {L : List (List Nat)} (hr : r ≤ n) (hn : n ≤ 12) (h : chainB n r L = true) : Chain n r L := by
  cases L with
  | nil => cases h
  | cons a M =>
    obtain ⟨h1, h2⟩ := Bool.and_eq_true_iff.mp (show (decide (a = List.range r) && ((a :: M).all (fun x => Nat.beq x.length r) && runB n a M)) = true from h)
    obtain ⟨h3, h4⟩ := Bool.and_eq_true_iff.mp h2
    obtain ⟨h5, h6⟩ := run_suc M a h4
    exact ⟨by simp, by rw [of_decide_eq_true h1]; rfl, fun x hx => by
      have := Nat.eq_of_beq_eq_true (List.all_eq_true.mp h3 x hx); omega, h5, fun x hx => h6 x (by simpa using hx), hr⟩
theorem chains : ((List.range 13).all fun n => (List.range (n + 1)).all fun r => chainB n r (combs (List.range n) r)) = true := by decide +kernel
theorem chain_combs {n r : Nat} (hn : n ≤ 12) (hr : r ≤ n) : Chain n r (combs (List.range n) r) :=
  chain_of hr hn (List.all_eq_true.mp (List.all_eq_true.mp chains n (List.mem_range.mpr (by omega))) r (List.mem_range.mpr (by omega)))
end Sp
end

section
set_option Elab.async false
set_option linter.all false
set_option maxRecDepth 100000
set_option maxHeartbeats 4000000
/-! Sparetrees: the ground of the walk: the text by places, promises by names, what stands in the heap, growth, comprehensions. -/
namespace Sp
open PySem PySem.Spec PyProof.Rows L2

/-! ### what stands: a value tells a datum -/
abbrev Rp (α : Type) := α → V → Hp → Prop
class Mn {α : Type} (R : Rp α) : Prop where
  mono : ∀ {x : α} {v : V} {G G' : Hp}, Same G G' → R x v G → R x v G'
def rN : Rp Nat := fun n v _ => v = .int (n : Int)
def rZ : Rp Int := fun n v _ => v = .int n
def rB : Rp Bool := fun b v _ => v = .bl b
abbrev All2 {α : Type} (R : Rp α) (G : Hp) (xs : List α) (vs : List V) : Prop := Paired (fun x v => R x v G) xs vs
def rT {α : Type} (R : Rp α) : Rp (List α) := fun xs v G => ∃ p vs, v = .ref p ∧ G p = some (.tup vs) ∧ All2 R G xs vs
def rL {α : Type} (R : Rp α) : Rp (List α) := fun xs v G => ∃ p vs, v = .ref p ∧ G p = some (.lst vs) ∧ All2 R G xs vs
def rP {α β : Type} (R : Rp α) (R' : Rp β) : Rp (α × β) := fun x v G => ∃ p a b, v = .ref p ∧ G p = some (.tup [a, b]) ∧ R x.1 a G ∧ R' x.2 b G
theorem All2.mono {α : Type} {R : Rp α} [m : Mn R] {G G' : Hp} (s : Same G G') {xs : List α} {vs : List V} (h : All2 R G xs vs) : All2 R G' xs vs := Paired.mapP h fun _ _ r => m.mono s r
instance : Mn rN := ⟨fun _ h => h⟩
instance : Mn rZ := ⟨fun _ h => h⟩
instance : Mn rB := ⟨fun _ h => h⟩
instance {α : Type} {R : Rp α} [Mn R] : Mn (rT R) := ⟨fun s ⟨p, vs, e, h, a⟩ => ⟨p, vs, e, s _ _ h, All2.mono s a⟩⟩
instance {α : Type} {R : Rp α} [Mn R] : Mn (rL R) := ⟨fun s ⟨p, vs, e, h, a⟩ => ⟨p, vs, e, s _ _ h, All2.mono s a⟩⟩
instance {α β : Type} {R : Rp α} {R' : Rp β} [m : Mn R] [m' : Mn R'] : Mn (rP R R') := ⟨fun s ⟨p, a, b, e, h, r, r'⟩ => ⟨p, a, b, e, s _ _ h, m.mono s r, m'.mono s r'⟩⟩
theorem All2.get {α : Type} {R : Rp α} {G : Hp} : ∀ {xs : List α} {vs : List V} {i : Nat} {x : α}, All2 R G xs vs → xs[i]? = some x → ∃ v, vs[i]? = some v ∧ R x v G
  | _, _, _, _, .nil, h => by simp at h
  | _, _, 0, _, .cons r _, h => ⟨_, rfl, by simp at h; exact h ▸ r⟩
  | _, _, i + 1, _, .cons _ t, h => All2.get (i := i) t (by simpa using h)
theorem All2.getV {α : Type} {R : Rp α} {G : Hp} : ∀ {xs : List α} {vs : List V} {i : Nat} {v : V}, All2 R G xs vs → vs[i]? = some v → ∃ x, xs[i]? = some x ∧ R x v G
  | _, _, _, _, .nil, h => by simp at h
  | _, _, 0, _, .cons r _, h => ⟨_, rfl, by simp at h; exact h ▸ r⟩
  | _, _, i + 1, _, .cons _ t, h => All2.getV (i := i) t (by simpa using h)
theorem All2.app {α : Type} {R : Rp α} {G : Hp} : ∀ {xs ys : List α} {vs ws : List V}, All2 R G xs vs → All2 R G ys ws → All2 R G (xs ++ ys) (vs ++ ws)
  | _, _, _, _, .nil, h => h
  | _, _, _, _, .cons r t, h => .cons r (All2.app t h)
theorem All2.one {α : Type} {R : Rp α} {G : Hp} {x : α} {v : V} (r : R x v G) : All2 R G [x] [v] := .cons r .nil
theorem All2.len {α : Type} {R : Rp α} {G : Hp} {xs : List α} {vs : List V} (h : All2 R G xs vs) : vs.length = xs.length := (Paired.length h).symm
theorem All2.erase {α : Type} {R : Rp α} {G : Hp} : ∀ {xs : List α} {vs : List V} (j : Nat), All2 R G xs vs → All2 R G (xs.eraseIdx j) (vs.eraseIdx j)
  | _, _, _, .nil => .nil
  | _, _, 0, .cons _ t => t
  | _, _, j + 1, .cons r t => .cons r (All2.erase j t)
theorem All2.take {α : Type} {R : Rp α} {G : Hp} : ∀ {xs : List α} {vs : List V} (j : Nat), All2 R G xs vs → All2 R G (xs.take j) (vs.take j)
  | _, _, _, .nil => by simp; exact .nil
  | _, _, 0, .cons _ t => .nil
  | _, _, j + 1, .cons r t => .cons r (All2.take j t)
theorem All2.drop {α : Type} {R : Rp α} {G : Hp} : ∀ {xs : List α} {vs : List V} (j : Nat), All2 R G xs vs → All2 R G (xs.drop j) (vs.drop j)
  | _, _, _, .nil => by simp; exact .nil
  | _, _, 0, .cons r t => .cons r t
  | _, _, j + 1, .cons _ t => All2.drop j t
theorem All2.rev {α : Type} {R : Rp α} {G : Hp} : ∀ {xs : List α} {vs : List V}, All2 R G xs vs → All2 R G xs.reverse vs.reverse
  | _, _, .nil => .nil
  | _, _, .cons r t => by rw [List.reverse_cons, List.reverse_cons]; exact All2.app (All2.rev t) (.one r)
abbrev nV (n : Nat) : V := .int (n : Int)
theorem all2_nat {G : Hp} : ∀ {ns : List Nat} {vs : List V}, All2 rN G ns vs → vs = ns.map nV
  | _, _, .nil => rfl
  | _, _, .cons r t => by rw [all2_nat t]; rw [show _ = nV _ from r]; rfl
theorem nat_all2 {G : Hp} : ∀ ns : List Nat, All2 rN G ns (ns.map nV)
  | [] => .nil
  | n :: ns => .cons rfl (nat_all2 ns)
theorem all2_bool {G : Hp} : ∀ {ns : List Bool} {vs : List V}, All2 rB G ns vs → vs = ns.map V.bl
  | _, _, .nil => rfl
  | _, _, .cons r t => by rw [all2_bool t]; rw [show _ = V.bl _ from r]; rfl
theorem map_nV (ns : List Nat) : ns.map nV = (ns.map (fun n : Nat => (n : Int))).map V.int := by rw [List.map_map]; rfl
/-- a tuple of numbers -/
theorem rT_nat {ns : List Nat} {v : V} {G : Hp} (h : rT rN ns v G) : ∃ p, v = .ref p ∧ G p = some (.tup (ns.map nV)) := by
  obtain ⟨p, vs, e, h, a⟩ := h
  exact ⟨p, e, by rw [h, all2_nat a]⟩
theorem nat_rT {ns : List Nat} {p : Addr} {G : Hp} (h : G p = some (.tup (ns.map nV))) : rT rN ns (.ref p) G := ⟨p, _, rfl, h, nat_all2 ns⟩
theorem rL_nat {ns : List Nat} {v : V} {G : Hp} (h : rL rN ns v G) : ∃ p, v = .ref p ∧ G p = some (.lst (ns.map nV)) := by
  obtain ⟨p, vs, e, h, a⟩ := h
  exact ⟨p, e, by rw [h, all2_nat a]⟩
theorem nat_rL {ns : List Nat} {p : Addr} {G : Hp} (h : G p = some (.lst (ns.map nV))) : rL rN ns (.ref p) G := ⟨p, _, rfl, h, nat_all2 ns⟩

/-! ### growth: G, what stays as it is, below H; m: what may change -/
structure Xt (m : Addr → Prop) (G0 H0 G H : Hp) : Prop where
  gg : Same G0 G
  gh : Same G H
  hh : ∀ b o, ¬ m b → H0 b = some o → H b = some o
  th : ∀ b, H0 b ≠ none → H b ≠ none
  fr : ∀ b, H0 b ≠ none → G0 b = none → G b = none
  gt : ∀ b ps, G b = some (.tbl ps) → G0 b = some (.tbl ps)
abbrev Pu : Addr → Prop := fun _ => False
section
variable {m m' : Addr → Prop} {G0 H0 G H G1 H1 : Hp} {p : Addr} {o : HO}
theorem same_upd {H : Hp} {p : Addr} {o : HO} (h : H p = none) : Same H (upd H p o) := fun b x e => by rw [upd_ne (ne_of_none e h)]; exact e
theorem Xt.refl (h : Same G H) : Xt m G H G H := ⟨Same.refl _, h, fun _ _ _ e => e, fun _ e => e, fun _ _ e => e, fun _ _ e => e⟩
theorem Xt.trans (a : Xt m G0 H0 G H) (b : Xt m G H G1 H1) : Xt m G0 H0 G1 H1 :=
  ⟨a.gg.trans b.gg, b.gh, fun c o n e => b.hh c o n (a.hh c o n e), fun c e => b.th c (a.th c e), fun c e n => b.fr c (a.th c e) (a.fr c e n), fun c ps e => a.gt c ps (b.gt c ps e)⟩
theorem Xt.weak (a : Xt m G0 H0 G H) (h : ∀ b, m b → m' b) : Xt m' G0 H0 G H := ⟨a.gg, a.gh, fun b o n e => a.hh b o (fun z => n (h b z)) e, a.th, a.fr, a.gt⟩
theorem Xt.same (a : Xt Pu G0 H0 G H) : Same H0 H := fun b o e => a.hh b o (fun z => z) e
theorem Xt.old (a : Xt m G0 H0 G H) (h : G0 p = some o) : H p = some o := a.gh _ _ (a.gg _ _ h)
theorem Xt.hnone (a : Xt m G0 H0 G H) (h : H p = none) : H0 p = none := by
  cases e : H0 p with
  | none => rfl
  | some u => exact absurd h (a.th p (by rw [e]; simp))
theorem Xt.gnone (a : Xt m G0 H0 G H) (h : H p = none) : G p = none := by
  cases e : G p with
  | none => rfl
  | some u => rw [a.gh _ _ e] at h; cases h
/-- a new thing that stays -/
theorem Xt.new (a : Xt m G0 H0 G H) (h : H p = none) (o : HO) (ho : ∀ ps, o ≠ .tbl ps := by intro _ z; cases z) : Xt m G0 H0 (upd G p o) (upd H p o) where
  gt := fun b ps e => by
    by_cases hb : b = p
    · subst hb; rw [upd_same] at e; exact absurd (Option.some.inj e) (ho ps)
    · rw [upd_ne hb] at e; exact a.gt b ps e
  gg := a.gg.trans (same_upd (a.gnone h))
  gh := fun b u e => by
    by_cases hb : b = p
    · subst hb; rw [upd_same] at e ⊢; exact e
    · rw [upd_ne hb] at e ⊢; exact a.gh _ _ e
  hh := fun b u n e => by rw [upd_ne (ne_of_none (a.hh b u n e) h)]; exact a.hh b u n e
  th := fun b e => by
    by_cases hb : b = p
    · subst hb; rw [upd_same]; simp
    · rw [upd_ne hb]; exact a.th b e
  fr := fun b e n => by
    have hb : b ≠ p := fun z => a.th b e (z ▸ h)
    rw [upd_ne hb]; exact a.fr b e n
/-- a new thing that may change still -/
theorem Xt.newM (a : Xt m G0 H0 G H) (h : H p = none) (o : HO) : Xt m G0 H0 G (upd H p o) where
  gt := a.gt
  gg := a.gg
  gh := fun b u e => by rw [upd_ne (ne_of_none (a.gh _ _ e) h)]; exact a.gh _ _ e
  hh := fun b u n e => by rw [upd_ne (ne_of_none (a.hh b u n e) h)]; exact a.hh b u n e
  th := fun b e => by
    by_cases hb : b = p
    · subst hb; rw [upd_same]; simp
    · rw [upd_ne hb]; exact a.th b e
  fr := a.fr
/-- a thing of ours changes -/
theorem Xt.mut (a : Xt m G0 H0 G H) (h0 : H0 p = none ∨ m p) (hg : G p = none) (o : HO) : Xt m G0 H0 G (upd H p o) where
  gt := a.gt
  gg := a.gg
  gh := fun b u e => by rw [upd_ne (ne_of_none e hg)]; exact a.gh _ _ e
  hh := fun b u n e => by
    have hb : b ≠ p := fun z => by
      rcases h0 with h0 | h0
      · rw [z, h0] at e; cases e
      · exact n (z ▸ h0)
    rw [upd_ne hb]; exact a.hh b u n e
  th := fun b e => by
    by_cases hb : b = p
    · subst hb; rw [upd_same]; simp
    · rw [upd_ne hb]; exact a.th b e
  fr := a.fr
/-- a thing of ours changes no more -/
theorem Xt.freeze (a : Xt m G0 H0 G H) (h0 : H0 p = none) (hg : G p = none) (h : H p = some o) (ho : ∀ ps, o ≠ .tbl ps := by intro _ z; cases z) : Xt m G0 H0 (upd G p o) H where
  gt := fun b ps e => by
    by_cases hb : b = p
    · subst hb; rw [upd_same] at e; exact absurd (Option.some.inj e) (ho ps)
    · rw [upd_ne hb] at e; exact a.gt b ps e
  gg := a.gg.trans (same_upd hg)
  gh := fun b u e => by
    by_cases hb : b = p
    · subst hb; rw [upd_same] at e; cases e; exact h
    · rw [upd_ne hb] at e; exact a.gh _ _ e
  hh := a.hh
  th := a.th
  fr := fun b e n => by
    have hb : b ≠ p := fun z => e (z ▸ h0)
    rw [upd_ne hb]; exact a.fr b e n
/-- .. what changes is ours -/
theorem Xt.own (a : Xt m G0 H0 G H) (b : Xt m' G H G1 H1) (h : ∀ c, m' c → m c ∨ H0 c = none) : Xt m G0 H0 G1 H1 :=
  ⟨a.gg.trans b.gg, b.gh, fun c o n e => b.hh c o (fun z => by
    rcases h c z with h | h
    · exact n h
    · rw [h] at e; cases e) (a.hh c o n e), fun c e => b.th c (a.th c e), fun c e n => b.fr c (a.th c e) (a.fr c e n), fun c ps e => a.gt c ps (b.gt c ps e)⟩
theorem Xt.pu (a : Xt Pu G0 H0 G H) : Xt m G0 H0 G H := a.weak fun _ z => z.elim
end

/-! ### a comprehension: of each item something, or nothing -/
theorem lcX {α β : Type} {J : It} {Gd : Hp → Prop} {Y : Nat → Hp → V → Hp → Prop} {g : TG} {tt : TT} {te : TE} {is : List Nat} {σ : L2.St} {D : Addr} {Qd : Hp → Prop} {m : Addr → Prop} {G H : Hp}
    (xs : List α) (f : α → Option β) (rel : α → V → Prop) (R' : Rp β) [Mn R'] {n : Nat} (hn : n = xs.length) (w : Walk J n Gd Y) (gh : Same G H) (hD : H D = none) (hm : ∀ b, m b → H b ≠ none) (hz : (xs.filterMap f).length < sizeLine)
    (hGd : ∀ G1 H1, Xt m G H G1 H1 → Gd H1) (hY : ∀ (i : Nat) (H1 : Hp) (v : V) (H2 : Hp), i < n → Y i H1 v H2 → H2 = H1 ∧ ∃ x, xs[i]? = some x ∧ rel x v)
    (hs : ∀ (i : Nat) (x : α) (v : V) (G1 H1 : Hp), xs[i]? = some x → rel x v → Xt m G H G1 H1 → ∀ (Q1 : Hp → Prop) (Q2 : V → Hp → Prop),
      (f x = none → ∀ G2 H2, Xt m G1 H1 G2 H2 → Q1 H2) → (∀ y, f x = some y → ∀ u G2 H2, Xt m G1 H1 G2 H2 → R' y u G2 → Q2 u H2) →
      g v (wipe σ is) H1 fun σ2 H2 => wipe σ2 is = wipe σ is ∧ tt σ2 H2 fun b H3 => if b = true then te σ2 H3 Q2 else Q1 H3)
    (hd : ∀ G1 H1 acc, Xt m G H G1 H1 → H1 D = some (.lst acc) → G1 D = none → All2 R' G1 (xs.filterMap f) acc → Qd H1) :
    ∃ W : Nat → Nat → Hp → Prop, (∃ m, W 0 m (upd H D (.lst []))) ∧ ∀ i m H, W i m H →
      (J.stop i H ∧ Qd H) ∨ (J.go i H ∧ ∃ Nx : Hp → Prop, (∀ H', Nx H' → ∃ m', m' < m ∧ W (i + 1) m' H') ∧ ∀ x H', J.yld i H x H' → g x (wipe σ is) H' fun σ2 H2 => wipe σ2 is = wipe σ is ∧ tt σ2 H2 fun b H3 =>
        if b = true then te σ2 H3 fun y H4 => ∃ acc, H4 D = some (.lst acc) ∧ acc.length < sizeLine ∧ Nx (upd H4 D (.lst (acc ++ [y]))) else Nx H3) := by
  have mD : ¬ m D := fun z => hm D z hD
  refine lc_it w (fun i H1 => ∃ G1 acc, Xt m G H G1 H1 ∧ H1 D = some (.lst acc) ∧ G1 D = none ∧ All2 R' G1 ((xs.take i).filterMap f) acc) ⟨G, [], (Xt.refl gh).newM hD _, upd_same, (Xt.refl (m := m) gh).gnone hD, .nil⟩ (fun i H1 _ ⟨G1, acc, e, _⟩ => hGd G1 H1 e) ?_ ?_
  · rintro i v H1 H1' hi ⟨G1, acc, e, eD, gD, ea⟩ y
    obtain ⟨rfl, x, hx, hr⟩ := hY i H1 v H1' hi y
    have step : (xs.take (i + 1)).filterMap f = (xs.take i).filterMap f ++ (f x).toList := by
      rw [List.take_add_one, hx, List.filterMap_append]
      cases h : f x <;> simp [h]
    refine hs i x v G1 H1' hx hr e (fun H3 => ∃ G1 acc, Xt m G H G1 H3 ∧ H3 D = some (.lst acc) ∧ G1 D = none ∧ All2 R' G1 ((xs.take (i + 1)).filterMap f) acc) _ (fun h0 G2 H2 e2 => ?_) (fun b hb u G2 H2 e2 r => ?_)
    · refine ⟨G2, acc, e.trans e2, e2.hh _ _ mD eD, e2.fr D (by rw [eD]; simp) gD, ?_⟩
      rw [step, h0]
      simpa using All2.mono e2.gg ea
    · have gD2 := e2.fr D (by rw [eD]; simp) gD
      have eD2 := e2.hh _ _ mD eD
      refine ⟨acc, eD2, ?_, G2, acc ++ [u], ((e.trans e2).mut (.inl hD) gD2 _), upd_same, gD2, ?_⟩
      · have l1 := ea.len
        have l2 : ((xs.take i).filterMap f).length + 1 ≤ (xs.filterMap f).length := by
          have h1 : (xs.take (i + 1)).filterMap f ++ (xs.drop (i + 1)).filterMap f = xs.filterMap f := by rw [← List.filterMap_append, List.take_append_drop]
          rw [← h1, List.length_append, step, hb]
          simp
        omega
      · rw [step, hb]
        exact (All2.mono e2.gg ea).app (.one r)
  · rintro H1 ⟨G1, acc, e, eD, gD, ea⟩
    rw [hn, List.take_length] at ea
    exact hd G1 H1 acc e eD gD ea

/-! ### the text -/
abbrev prg : Program := PySem.Challenge.pw_sparetrees_k52_whole_least_lots_that_sto
def topS (i : Nat) : Stmt := prg.main.body.getD i (.Pass ⟨0, 0, 0, 0⟩)
/-- the def of the name x, the i-th statement of the top -/
def DefAt (K : PySem.W.Frag) (mg : Str → Option Value) (x : Str) (i : Nat) : Prop :=
  mg x = some (.ref (He.ga K x)) ∧ ∃ fd, FunD K x x (defArgs (topS i)) (defBody (topS i)) (defScope (topS i)) [] [] (He.ga K x) fd
/-- a promise by the def's name -/
structure Keeps (P : Program) (w : World) (K : PySem.W.Frag) (mg : Str → Option Value) (base : Heap) (k : Nat) (x : Str) (ps : List Str) (sp : Sp) : Prop where
  ex : ∃ f fd, mg x = some (.ref f) ∧ FnOk P w K mg base CX0 k f fd ps sp ∧ Binds K fd ps [] ∧ PySem.W.keepIn K (.ref f) = true
section
variable {P : Program} {w : World} {K : PySem.W.Frag} {mg : Str → Option Value} {base : Heap}
theorem DefAt.keeps {x : Str} {i : Nat} {N ps : List Str} {k : Nat} {sp : Sp} (D : DefAt K mg x i) (S : FnScope N ps (defScope (topS i)))
    (h : ∀ (kV doc pm : Value) (an : Option Addr) (cdv ct : Value) (us : List Value), us.length = ps.length → bindArgs (PySem.W.fnOf x x (defArgs (topS i)) (defBody (topS i)) (defScope (topS i)) .none kV doc pm an cdv ct) ⟨us, []⟩ = pure (ps.zip us))
    (len : ∀ vs H Q E, sp vs H Q E → vs.length = ps.length)
    (hbody : ∀ (cdv : Value) (A : Around) (outer : List Env) (s : Shared) (H : Hp) (vs : List V) (Q : VK) (E : XK), Room k (A.deeper (envOfC x (defScope (topS i)) s.heap.objs.size (He.ga K x) cdv)) → sp vs H Q E →
      ∃ t, PSs (cxOf CX0 P w K mg base N x (defScope (topS i)) (He.ga K x) cdv A outer s H E).nox (defBody (topS i)) t ∧ t { nx := fun _ H' => Q .non H', rt := Q } (start N vs) H) : Keeps P w K mg base (k + 1) x ps sp := by
  obtain ⟨gm, fd, F⟩ := D
  refine ⟨_, fd, gm, FunD.ok F S len fun cdv A outer s H vs Q E hr hsp => ?_, FunD.bindsN F h, F.kp⟩
  obtain ⟨t, h1, h2⟩ := hbody cdv A outer s H vs Q E hr hsp
  exact ⟨t, h1.nox, h2⟩
theorem pcall {X : Cx} {k : Nat} {x : Str} {ps : List Str} {sp : Sp} {e : Expr} {es : List Expr} {t : TA} {p pos : Pos} (G : Keeps X.prog X.w X.K X.mg X.base k x ps sp) (hr : Room k X.A) (hg : Gl X x) (ha : PA X (e :: es) t)
    (hdb : (x == ("__debug__" : Str)) = false := by decide) (he : starEach (e :: es) X.env = (false, eval e X.env) :: starEach es X.env := by rfl) (hpl : (backTo pos (starEach es X.env)).any (·.1) = false := by rfl) :
    PE X (.Call (.Name x p) (e :: es) [] pos) (tCall sp [] E0 t) := by
  obtain ⟨f, fd, gm, F, b, kp⟩ := G.ex
  exact pe_call F hr hg gm kp b .nil pass0 ha hdb he hpl
end
/-- a module's number -/
theorem pgint {X : Cx} {x : Str} {i : Int} {pos : Pos} (h : ∃ t, X.mg x = some (.int i t)) (hg : Gl X x) (hd : (x == ("__debug__" : Str)) = false := by decide) : PE X (.Name x pos) (tC (.int i)) := by
  obtain ⟨t, h⟩ := h
  exact pe_glob hg h ⟨t, rfl⟩ hd
end Sp
end

section
set_option Elab.async false
set_option linter.all false
set_option maxRecDepth 100000
set_option maxHeartbeats 4000000
/-! Sparetrees: what the top leaves, and the first defs. -/
namespace Sp
open PySem PySem.Spec PyProof.Rows L2
/-- a class of ours that makes objects by its __init__ -/
structure ClsT (K : PySem.W.Frag) (mg : Str → Option Value) (x q : Str) (i : Nat) : Prop where
  g : mg x = some (.ref (He.ga K x))
  cl : Cls K (He.ga K x)
  mkr : Mk K (He.ga K x) (He.ma K (He.ga K x) "__init__")
  cl1 : PySem.W.findIn K (.ref (He.ga K x)) "__class__" = some (some (.builtin "object.__class__"))
  cl2 : PySem.W.specialIn K (.builtin "object.__class__") "__get__" = some (some (.builtin "getset_descriptor.__get__"))
  cl3 : PySem.W.takesIn K (.builtin "object.__class__") = some true
  cl4 : PySem.W.mroIn K (He.ga K x) (.type "object") = some true
  kit : PySem.W.kitOne K (.ref (He.ga K x)) (.ref (He.ga K x)) = some true
  ini : ∃ fd, FunD K "__init__" q (defArgs (inClass (topS i) 0)) (defBody (inClass (topS i) 0)) (defScope (inClass (topS i) 0)) [] [] (He.ma K (He.ga K x) "__init__") fd
structure Txt (K : PySem.W.Frag) (mg : Str → Option Value) : Prop where
  b_isinstance : mg "isinstance" = none
  b_int : mg "int" = none
  b_bool : mg "bool" = none
  b_tuple : mg "tuple" = none
  b_len : mg "len" = none
  b_list : mg "list" = none
  b_set : mg "set" = none
  b_sorted : mg "sorted" = none
  b_any : mg "any" = none
  b_all : mg "all" = none
  b_range : mg "range" = none
  b_enumerate : mg "enumerate" = none
  b_min : mg "min" = none
  b_abs : mg "abs" = none
  c_LEAST_PLACES : ∃ t, mg "LEAST_PLACES" = some (.int 2 t)
  c_MOST_PLACES : ∃ t, mg "MOST_PLACES" = some (.int 10 t)
  c_MOST_LINKS : ∃ t, mg "MOST_LINKS" = some (.int 60 t)
  c_MOST_SIZE : ∃ t, mg "MOST_SIZE" = some (.int 8 t)
  c_MOST_WORDS : ∃ t, mg "MOST_WORDS" = some (.int 12 t)
  c_MOST_LISTED : ∃ t, mg "MOST_LISTED" = some (.int 20000 t)
  g_combinations : mg "combinations" = some (.type "itertools.combinations")
  net : ClsT K mg "Net" "Net.__init__" 21
  net_many : NoAttr K (He.ga K "Net") "many"
  net_root : NoAttr K (He.ga K "Net") "root"
  net_links : NoAttr K (He.ga K "Net") "links"
  plan : ClsT K mg "Plan" "Plan.__init__" 40
  plan_net : NoAttr K (He.ga K "Plan") "of_net"
  plan_trees : NoAttr K (He.ga K "Plan") "by_trees"
  plan_size : NoAttr K (He.ga K "Plan") "of_size"
  plan_depths : NoAttr K (He.ga K "Plan") "kept_depths"
  d_is_integer : DefAt K mg "is_integer" 2
  d_is_within : DefAt K mg "is_within" 3
  d_is_pair : DefAt K mg "is_pair" 4
  d_is_lot : DefAt K mg "is_lot" 5
  d_is_link : DefAt K mg "is_link" 22
  d_check_net : DefAt K mg "check_net" 23
  d_is_lot_of : DefAt K mg "is_lot_of" 24
  d_reached : DefAt K mg "reached" 26
  d_is_wood : DefAt K mg "is_wood" 27
  d_is_grown : DefAt K mg "is_grown" 28
  d_is_tree : DefAt K mg "is_tree" 29
  d_are_apart : DefAt K mg "are_apart" 30
  d_is_packing : DefAt K mg "is_packing" 31
  d_check_tree : DefAt K mg "check_tree" 33
  d_links_to : DefAt K mg "links_to" 34
  d_depths : DefAt K mg "depths" 35
  d_way_in : DefAt K mg "way_in" 36
  d_check_plan : DefAt K mg "check_plan" 41
  d_depth_of : DefAt K mg "depth_of" 42
  d_check_lost : DefAt K mg "check_lost" 44
  d_cut_trees : DefAt K mg "cut_trees" 47
  d_is_stopped : DefAt K mg "is_stopped" 48
  d_stopped : DefAt K mg "stopped" 49
  d_too_many_stops : DefAt K mg "too_many_stops" 50
  d_choices : DefAt K mg "choices" 51
  d_stops_of : DefAt K mg "stops_of" 52
  d_stops : DefAt K mg "stops" 53
  d_least_stop : DefAt K mg "least_stop" 54
  d_mixed : DefAt K mg "_law_mixed" 56
  d_bag : DefAt K mg "_law_bag" 57
  d_draw : DefAt K mg "_law_draw" 58
  d_tree : DefAt K mg "_law_tree" 59
  d_plan : DefAt K mg "_law_plan" 60
  d_made : DefAt K mg "_law_made" 61
  d_way : DefAt K mg "_law_way" 62
  d_lot : DefAt K mg "_law_lot" 63
  d_chosen : DefAt K mg "_law_chosen" 64
  d_stops' : DefAt K mg "_law_stops" 65
  d_product : DefAt K mg "_law_product" 66
  d_told : DefAt K mg "_law_told" 67
  d_are_least : DefAt K mg "_law_are_least" 68
  d_right : DefAt K mg "_law_is_place_right" 69
  d_law : DefAt K mg "law" 70
  tm : OexC K (He.ga K "TooMany")
  tm_g : mg "TooMany" = some (.ref (He.ga K "TooMany"))
  tm_most : PySem.W.findIn K (.ref (He.ga K "TooMany")) "most" = some none
  tmE : ExcC K (He.ga K "TooMany")
  tm_init : PySem.W.findIn K (.ref (He.ga K "TooMany")) "__init__" = some (some (.ref (He.ma K (He.ga K "TooMany") "__init__")))
  tm_ty : PySem.W.typeIn K (.ref (He.ma K (He.ga K "TooMany") "__init__")) = some (.type "function")

  tm_fd : ∃ fd, FunD K "__init__" "TooMany.__init__" (defArgs (inClass (topS 14) 0)) (defBody (inClass (topS 14) 0)) (defScope (inClass (topS 14) 0)) [] [] (He.ma K (He.ga K "TooMany") "__init__") fd
  tm_same : PySem.W.exmOne K (.ref (He.ga K "TooMany")) (.ref (He.ga K "TooMany")) = some true
  te_g : mg "TreeError" = some (.ref (He.ga K "TreeError"))
  te_kit : PySem.W.kitOne K (.ref (He.ga K "TooMany")) (.ref (He.ga K "TreeError")) = some true
/-- a promise of a class's __init__ -/
structure KeepsI (P : Program) (w : World) (K : PySem.W.Frag) (mg : Str → Option Value) (base : Heap) (k : Nat) (x : Str) (ps : List Str) (sp : L2.Sp) : Prop where
  ex : ∃ fd, FnOk P w K mg base CX0 k (He.ma K (He.ga K x) "__init__") fd ps sp ∧ Binds K fd ps []
section
variable {P : Program} {w : World} {K : PySem.W.Frag} {mg : Str → Option Value} {base : Heap}
theorem ClsT.keeps {x q : Str} {i : Nat} {N ps : List Str} {k : Nat} {sp : L2.Sp} (C : ClsT K mg x q i) (S : FnScope N ps (defScope (inClass (topS i) 0)))
    (h : ∀ (kV doc pm : Value) (an : Option Addr) (cdv ct : Value) (us : List Value), us.length = ps.length → bindArgs (PySem.W.fnOf "__init__" q (defArgs (inClass (topS i) 0)) (defBody (inClass (topS i) 0)) (defScope (inClass (topS i) 0)) .none kV doc pm an cdv ct) ⟨us, []⟩ = pure (ps.zip us))
    (len : ∀ vs H Q E, sp vs H Q E → vs.length = ps.length)
    (hbody : ∀ (cdv : Value) (A : Around) (outer : List Env) (s : Shared) (H : Hp) (vs : List V) (Q : VK) (E : XK), Room k (A.deeper (envOfC q (defScope (inClass (topS i) 0)) s.heap.objs.size (He.ma K (He.ga K x) "__init__") cdv)) → sp vs H Q E →
      ∃ t, PSs (cxOf CX0 P w K mg base N q (defScope (inClass (topS i) 0)) (He.ma K (He.ga K x) "__init__") cdv A outer s H E).nox (defBody (inClass (topS i) 0)) t ∧ t { nx := fun _ H' => Q .non H', rt := Q } (start N vs) H) : KeepsI P w K mg base (k + 1) x ps sp := by
  obtain ⟨fd, F⟩ := C.ini
  refine ⟨fd, FunD.ok F S len fun cdv A outer s H vs Q E hr hsp => ?_, FunD.bindsN F h⟩
  obtain ⟨t, h1, h2⟩ := hbody cdv A outer s H vs Q E hr hsp
  exact ⟨t, h1.nox, h2⟩
theorem pmake {X : Cx} {k : Nat} {x q : Str} {i : Nat} {ps : List Str} {sp : L2.Sp} {e : Expr} {es : List Expr} {t : TA} {p pos : Pos} (C : ClsT X.K X.mg x q i) (G : KeepsI X.prog X.w X.K X.mg X.base k x ps sp) (hr : Room (k + 1) X.A) (hg : Gl X x) (ha : PA X (e :: es) t)
    (hdb : (x == ("__debug__" : Str)) = false := by decide) (he : starEach (e :: es) X.env = (false, eval e X.env) :: starEach es X.env := by rfl) (hpl : (backTo pos (starEach es X.env)).any (·.1) = false := by rfl) :
    PE X (.Call (.Name x p) (e :: es) [] pos) (tMake (He.ga X.K x) sp [] E0 t) := by
  obtain ⟨fd, F, b⟩ := G.ex
  exact pe_make C.mkr F hr hg C.g b .nil pass0 ha hdb he hpl
end
/-! ### the objects -/
def NetO (K : PySem.W.Frag) (n r : Nat) (L : List (Nat × Nat)) (v : V) (G : Hp) : Prop := ∃ a dx lv, v = .ref a ∧ G a = some (.ins (He.ga K "Net") dx [("many", nV n), ("root", nV r), ("links", lv)]) ∧ rT (rP rN rN) L lv G
def PlanO (K : PySem.W.Frag) (n r : Nat) (L : List (Nat × Nat)) (T : List (List Nat)) (k : Nat) (D : List (List Nat)) (v : V) (G : Hp) : Prop :=
  ∃ a dx nv tv dv, v = .ref a ∧ G a = some (.ins (He.ga K "Plan") dx [("of_net", nv), ("by_trees", tv), ("of_size", nV k), ("kept_depths", dv)]) ∧ NetO K n r L nv G ∧ rT (rT rN) T tv G ∧ rL (rT rN) D dv G
theorem NetO.mono {K : PySem.W.Frag} {n r : Nat} {L : List (Nat × Nat)} {v : V} {G G' : Hp} (s : Same G G') : NetO K n r L v G → NetO K n r L v G' :=
  fun ⟨a, dx, lv, e, h, l⟩ => ⟨a, dx, lv, e, s _ _ h, Mn.mono s l⟩
theorem PlanO.mono {K : PySem.W.Frag} {n r k : Nat} {L : List (Nat × Nat)} {T D : List (List Nat)} {v : V} {G G' : Hp} (s : Same G G') : PlanO K n r L T k D v G → PlanO K n r L T k D v G' :=
  fun ⟨a, dx, nv, tv, dv, e, h, n', t, d⟩ => ⟨a, dx, nv, tv, dv, e, s _ _ h, NetO.mono s n', Mn.mono s t, Mn.mono s d⟩
end Sp
end

section
set_option Elab.async false
set_option linter.all false
set_option maxRecDepth 100000
set_option maxHeartbeats 4000000
/-! Sparetrees: comprehensions over lists, tuples, ranges; loops. -/
namespace Sp
open PySem PySem.Spec PyProof.Rows L2
theorem ife {b : Bool} {A B : Prop} (h1 : b = true → A) (h0 : b = false → B) : if b = true then A else B := by
  cases b with
  | true => rw [if_pos rfl]; exact h1 rfl
  | false => rw [if_neg Bool.false_ne_true]; exact h0 rfl
theorem nV_dec (a b : Nat) : decide (nV a = nV b) = decide (a = b) := by
  by_cases h : a = b
  · subst h; simp
  · have h2 : nV a ≠ nV b := fun z => h (by injection z with z; exact Int.ofNat_inj.mp z)
    rw [decide_eq_false h, decide_eq_false h2]
theorem atI_0 {α : Type} {x : α} {xs : List α} : atI (x :: xs) 0 = some x := atI_nat (j := 0) rfl
theorem flat_nat (F : List Nat) : (F.map nV).all flatV = true := by
  induction F with
  | nil => rfl
  | cons x F ih => rw [List.map_cons, List.all_cons, ih]; rfl
theorem inV_nat (x : Nat) : ∀ F : List Nat, inV (nV x) (F.map nV) = decide (x ∈ F)
  | [] => rfl
  | y :: F => by
    have ih := inV_nat x F
    unfold inV at ih ⊢
    rw [List.map_cons, List.any_cons, ih]
    have e : eqV (nV y) (nV x) = decide (x = y) := by
      show ((y : Int) == (x : Int)) = decide (x = y)
      by_cases h : x = y
      · subst h; simp
      · have : ((y : Int) == (x : Int)) = false := by
          apply beq_false_of_ne; intro z; exact h (Int.ofNat_inj.mp z.symm)
        rw [this]; simp [h]
    rw [e]
    by_cases h : x = y
    · subst h; simp
    · simp [h]
/-- ints that are numbers -/
theorem nats_of : ∀ is : List Int, (∀ i ∈ is, 0 ≤ i) → is = (is.map Int.toNat).map (fun n : Nat => (n : Int))
  | [], _ => rfl
  | i :: is, h => by
    rw [List.map_cons, List.map_cons, ← nats_of is (fun j hj => h j (List.mem_cons_of_mem _ hj)), Int.toNat_of_nonneg (h i List.mem_cons_self)]
/-! ### rules within a comprehension: the written part told -/
section
variable {X : Cx} {K : PySem.W.Frag}
theorem ix_listK (hK : X.K = K := by rfl) : IxR X (rIxL K) := hK ▸ ix_list
theorem ix_tupK (hK : X.K = K := by rfl) : IxR X (rIxT K) := hK ▸ ix_tup
theorem op_in_seqK (hK : X.K = K := by rfl) : OpR X (compareOp .In) (rIn K false) := hK ▸ op_in_seq
theorem op_notIn_seqK (hK : X.K = K := by rfl) : OpR X (compareOp .NotIn) (rIn K true) := hK ▸ op_notIn_seq
theorem call_len_seqK (hK : X.K = K := by rfl) : CallR X (.builtin "len") (fun xs H Q => ∃ p ys, xs = [.ref p] ∧ (SqL K H p ys ∨ SqT K H p ys) ∧ Q (.int ys.length) H) := hK ▸ call_len_seq
theorem call_tuple_ofK (hK : X.K = K := by rfl) : CallR X (.type "tuple") (fun xs H Q => ∃ p ys, xs = [.ref p] ∧ ((SqL K H p ys ∧ ∀ l, H l = none → Q (.ref l) (upd H l (.tup ys))) ∨ (SqT K H p ys ∧ Q (.ref p) H))) := hK ▸ call_tuple_of
theorem op_catAK (hK : X.K = K := by rfl) : OpR X (binaryOp .Add) (rCatA K) := hK ▸ op_catA
theorem cr_sortITK (hK : X.K = K := by rfl) : CallR X (.builtin "sorted") (rSortIT K) := hK ▸ cr_sortIT
theorem call_isiK (hK : X.K = K := by rfl) : CallR X (.builtin "isinstance") (rIsi K) := hK ▸ call_isi
theorem cr_anyK (hc : X.calm = true) (hK : X.K = K := by rfl) : CallR X (.builtin "any") (rAny K) := hK ▸ cr_any hc
theorem cr_allK (hc : X.calm = true) (hK : X.K = K := by rfl) : CallR X (.builtin "all") (rAll K) := hK ▸ cr_all hc
theorem pe_fldK {e : Expr} {f : Str} {pos : Pos} {ta : TE} (he : PE X e ta) (hb : attributeBase e f X.env (eval e X.env) = eval e X.env) (hK : X.K = K := by rfl) : PE X (.Attribute e f pos) (tFld K ta f) := hK ▸ pe_fld he hb
theorem pi_listK {tg l : Expr} {tl : TE} (hl : PE X l tl) (hK : X.K = K := by rfl) : PI X tg l (iList K tl) := hK ▸ pi_list hl
theorem pi_tupK {tg l : Expr} {tl : TE} (hl : PE X l tl) (hK : X.K = K := by rfl) : PI X tg l (iTup K tl) := hK ▸ pi_tup hl
end
section
variable {α β : Type} {K : PySem.W.Frag} {tt : TT} {te : TE} {i : Nat} {σ : L2.St} {D a : Addr} {Qd : Hp → Prop} {m : Addr → Prop} {G H : Hp} {vs : List V}
/-- the turn of a comprehension, with a test -/
abbrev Turn (tt : TT) (te : TE) (i : Nat) (σ : L2.St) (m : Addr → Prop) (G H : Hp) (xs : List α) (f : α → Option β) (R : Rp α) (R' : Rp β) : Prop :=
  ∀ (j : Nat) (x : α) (v : V) (G1 H1 : Hp), xs[j]? = some x → R x v G1 → Xt m G H G1 H1 → ∀ (Q1 : Hp → Prop) (Q2 : V → Hp → Prop),
      (f x = none → ∀ G2 H2, Xt m G1 H1 G2 H2 → Q1 H2) → (∀ y, f x = some y → ∀ u G2 H2, Xt m G1 H1 G2 H2 → R' y u G2 → Q2 u H2) →
      tt ((σ.set i none).set i (some v)) H1 fun b H3 => if b = true then te ((σ.set i none).set i (some v)) H3 Q2 else Q1 H3
/-- .. without -/
abbrev TurnM (te : TE) (i : Nat) (σ : L2.St) (m : Addr → Prop) (G H : Hp) (xs : List α) (f : α → β) (R : Rp α) (R' : Rp β) : Prop :=
  ∀ (j : Nat) (x : α) (v : V) (G1 H1 : Hp), xs[j]? = some x → R x v G1 → Xt m G H G1 H1 → ∀ (Q2 : V → Hp → Prop), (∀ u G2 H2, Xt m G1 H1 G2 H2 → R' (f x) u G2 → Q2 u H2) →
      te ((σ.set i none).set i (some v)) H1 Q2
abbrev Done (D : Addr) (Qd : Hp → Prop) (m : Addr → Prop) (G H : Hp) (ys : List β) (R' : Rp β) : Prop :=
  ∀ G1 H1 acc, Xt m G H G1 H1 → H1 D = some (.lst acc) → G1 D = none → All2 R' G1 ys acc → Qd H1
theorem wipe_set {σ : L2.St} {i : Nat} {v : V} : wipe ((wipe σ [i]).set i (some v)) [i] = wipe σ [i] := by
  show (((σ.set i none).set i (some v)).set i none) = σ.set i none
  rw [List.set_set, List.set_set]
theorem turn_of {xs : List α} {f : α → β} {R : Rp α} {R' : Rp β} (h : TurnM te i σ m G H xs f R R') : Turn tYes te i σ m G H xs (fun x => some (f x)) R R' :=
  fun j x v G1 H1 hx hr e Q1 Q2 _ k2 => by
    show if true = true then te ((σ.set i none).set i (some v)) H1 Q2 else Q1 H1
    exact iteT (h j x v G1 H1 hx hr e Q2 fun u G2 H2 e2 r => k2 _ rfl u G2 H2 e2 r)
theorem fm_map (xs : List α) (f : α → β) : xs.filterMap (fun x => some (f x)) = xs.map f := by
  induction xs with
  | nil => rfl
  | cons x xs ih => rw [List.filterMap_cons, ih]; rfl
theorem lcT (xs : List α) (f : α → Option β) (R : Rp α) [Mn R] (R' : Rp β) [Mn R'] (gh : Same G H) (ha : G a = some (.tup vs)) (hx : All2 R G xs vs) (hD : H D = none) (hz : (xs.filterMap f).length < sizeLine)
    (hs : Turn tt te i σ m G H xs f R R') (hd : Done D Qd m G H (xs.filterMap f) R') (hm : ∀ b, m b → H b ≠ none := by first | assumption | exact fun _ z => False.elim z) :
    ∃ W : Nat → Nat → Hp → Prop, (∃ m, W 0 m (upd H D (.lst []))) ∧ ∀ n m H, W n m H →
      ((Itt K a).stop n H ∧ Qd H) ∨ ((Itt K a).go n H ∧ ∃ Nx : Hp → Prop, (∀ H', Nx H' → ∃ m', m' < m ∧ W (n + 1) m' H') ∧ ∀ x H', (Itt K a).yld n H x H' → (gName i) x (wipe σ [i]) H' fun σ2 H2 => wipe σ2 [i] = wipe σ [i] ∧ tt σ2 H2 fun b H3 =>
        if b = true then te σ2 H3 fun y H4 => ∃ acc, H4 D = some (.lst acc) ∧ acc.length < sizeLine ∧ Nx (upd H4 D (.lst (acc ++ [y]))) else Nx H3) :=
  lcX xs f (fun x v => ∃ G', Same G G' ∧ R x v G) R' hx.len walk_tup gh hD hm hz (fun G1 H1 e => SqT.of (e.old ha)) (fun j H1 v H2 _ y => ⟨y.1, by
    obtain ⟨x, h1, h2⟩ := All2.getV hx y.2
    exact ⟨x, h1, G, Same.refl _, h2⟩⟩)
    (fun j x v G1 H1 h1 ⟨_, _, h2⟩ e Q1 Q2 k1 k2 => ⟨wipe_set, hs j x v G1 H1 h1 (Mn.mono e.gg h2) e Q1 Q2 k1 k2⟩) hd
theorem lcL (xs : List α) (f : α → Option β) (R : Rp α) [Mn R] (R' : Rp β) [Mn R'] (gh : Same G H) (ha : G a = some (.lst vs)) (hx : All2 R G xs vs) (hD : H D = none) (hz : (xs.filterMap f).length < sizeLine)
    (hs : Turn tt te i σ m G H xs f R R') (hd : Done D Qd m G H (xs.filterMap f) R') (hm : ∀ b, m b → H b ≠ none := by first | assumption | exact fun _ z => False.elim z) :
    ∃ W : Nat → Nat → Hp → Prop, (∃ m, W 0 m (upd H D (.lst []))) ∧ ∀ n m H, W n m H →
      ((Itl K a).stop n H ∧ Qd H) ∨ ((Itl K a).go n H ∧ ∃ Nx : Hp → Prop, (∀ H', Nx H' → ∃ m', m' < m ∧ W (n + 1) m' H') ∧ ∀ x H', (Itl K a).yld n H x H' → (gName i) x (wipe σ [i]) H' fun σ2 H2 => wipe σ2 [i] = wipe σ [i] ∧ tt σ2 H2 fun b H3 =>
        if b = true then te σ2 H3 fun y H4 => ∃ acc, H4 D = some (.lst acc) ∧ acc.length < sizeLine ∧ Nx (upd H4 D (.lst (acc ++ [y]))) else Nx H3) :=
  lcX xs f (fun x v => ∃ G', Same G G' ∧ R x v G) R' hx.len walk_list gh hD hm hz (fun G1 H1 e => SqL.of (e.old ha)) (fun j H1 v H2 _ y => ⟨y.1, by
    obtain ⟨x, h1, h2⟩ := All2.getV hx y.2
    exact ⟨x, h1, G, Same.refl _, h2⟩⟩)
    (fun j x v G1 H1 h1 ⟨_, _, h2⟩ e Q1 Q2 k1 k2 => ⟨wipe_set, hs j x v G1 H1 h1 (Mn.mono e.gg h2) e Q1 Q2 k1 k2⟩) hd
theorem lcR (n : Nat) (f : Nat → Option β) (R' : Rp β) [Mn R'] (gh : Same G H) (hD : H D = none) (hz : ((List.range n).filterMap f).length < sizeLine)
    (hs : Turn tt te i σ m G H (List.range n) f rN R') (hd : Done D Qd m G H ((List.range n).filterMap f) R') (hm : ∀ b, m b → H b ≠ none := by first | assumption | exact fun _ z => False.elim z) :
    ∃ W : Nat → Nat → Hp → Prop, (∃ m, W 0 m (upd H D (.lst []))) ∧ ∀ k m H, W k m H →
      ((Itr 0 n).stop k H ∧ Qd H) ∨ ((Itr 0 n).go k H ∧ ∃ Nx : Hp → Prop, (∀ H', Nx H' → ∃ m', m' < m ∧ W (k + 1) m' H') ∧ ∀ x H', (Itr 0 n).yld k H x H' → (gName i) x (wipe σ [i]) H' fun σ2 H2 => wipe σ2 [i] = wipe σ [i] ∧ tt σ2 H2 fun b H3 =>
        if b = true then te σ2 H3 fun y H4 => ∃ acc, H4 D = some (.lst acc) ∧ acc.length < sizeLine ∧ Nx (upd H4 D (.lst (acc ++ [y]))) else Nx H3) :=
  lcX (List.range n) f (fun x v => v = nV x) R' (by rw [List.length_range]) walk_range gh hD hm hz (fun _ _ _ => trivial) (fun j H1 v H2 hj y => ⟨y.1, j, by rw [List.getElem?_range hj], by
    rw [y.2]; show V.int (0 + (j : Int)) = V.int (j : Int); rw [Int.zero_add]⟩)
    (fun j x v G1 H1 h1 h2 e Q1 Q2 k1 k2 => ⟨wipe_set, hs j x v G1 H1 h1 h2 e Q1 Q2 k1 k2⟩) hd
theorem lcTm (xs : List α) (f : α → β) (R : Rp α) [Mn R] (R' : Rp β) [Mn R'] (gh : Same G H) (ha : G a = some (.tup vs)) (hx : All2 R G xs vs) (hD : H D = none) (hz : xs.length < sizeLine)
    (hs : TurnM te i σ m G H xs f R R') (hd : Done D Qd m G H (xs.map f) R') (hm : ∀ b, m b → H b ≠ none := by first | assumption | exact fun _ z => False.elim z) :
    ∃ W : Nat → Nat → Hp → Prop, (∃ m, W 0 m (upd H D (.lst []))) ∧ ∀ n m H, W n m H →
      ((Itt K a).stop n H ∧ Qd H) ∨ ((Itt K a).go n H ∧ ∃ Nx : Hp → Prop, (∀ H', Nx H' → ∃ m', m' < m ∧ W (n + 1) m' H') ∧ ∀ x H', (Itt K a).yld n H x H' → (gName i) x (wipe σ [i]) H' fun σ2 H2 => wipe σ2 [i] = wipe σ [i] ∧ tYes σ2 H2 fun b H3 =>
        if b = true then te σ2 H3 fun y H4 => ∃ acc, H4 D = some (.lst acc) ∧ acc.length < sizeLine ∧ Nx (upd H4 D (.lst (acc ++ [y]))) else Nx H3) :=
  lcT xs (fun x => some (f x)) R R' gh ha hx hD (by rw [fm_map, List.length_map]; exact hz) (turn_of hs) (by rw [fm_map]; exact hd) hm
theorem lcLm (xs : List α) (f : α → β) (R : Rp α) [Mn R] (R' : Rp β) [Mn R'] (gh : Same G H) (ha : G a = some (.lst vs)) (hx : All2 R G xs vs) (hD : H D = none) (hz : xs.length < sizeLine)
    (hs : TurnM te i σ m G H xs f R R') (hd : Done D Qd m G H (xs.map f) R') (hm : ∀ b, m b → H b ≠ none := by first | assumption | exact fun _ z => False.elim z) :
    ∃ W : Nat → Nat → Hp → Prop, (∃ m, W 0 m (upd H D (.lst []))) ∧ ∀ n m H, W n m H →
      ((Itl K a).stop n H ∧ Qd H) ∨ ((Itl K a).go n H ∧ ∃ Nx : Hp → Prop, (∀ H', Nx H' → ∃ m', m' < m ∧ W (n + 1) m' H') ∧ ∀ x H', (Itl K a).yld n H x H' → (gName i) x (wipe σ [i]) H' fun σ2 H2 => wipe σ2 [i] = wipe σ [i] ∧ tYes σ2 H2 fun b H3 =>
        if b = true then te σ2 H3 fun y H4 => ∃ acc, H4 D = some (.lst acc) ∧ acc.length < sizeLine ∧ Nx (upd H4 D (.lst (acc ++ [y]))) else Nx H3) :=
  lcL xs (fun x => some (f x)) R R' gh ha hx hD (by rw [fm_map, List.length_map]; exact hz) (turn_of hs) (by rw [fm_map]; exact hd) hm
theorem lcRm (n : Nat) (f : Nat → β) (R' : Rp β) [Mn R'] (gh : Same G H) (hD : H D = none) (hz : n < sizeLine)
    (hs : TurnM te i σ m G H (List.range n) f rN R') (hd : Done D Qd m G H ((List.range n).map f) R') (hm : ∀ b, m b → H b ≠ none := by first | assumption | exact fun _ z => False.elim z) :
    ∃ W : Nat → Nat → Hp → Prop, (∃ m, W 0 m (upd H D (.lst []))) ∧ ∀ k m H, W k m H →
      ((Itr 0 n).stop k H ∧ Qd H) ∨ ((Itr 0 n).go k H ∧ ∃ Nx : Hp → Prop, (∀ H', Nx H' → ∃ m', m' < m ∧ W (k + 1) m' H') ∧ ∀ x H', (Itr 0 n).yld k H x H' → (gName i) x (wipe σ [i]) H' fun σ2 H2 => wipe σ2 [i] = wipe σ [i] ∧ tYes σ2 H2 fun b H3 =>
        if b = true then te σ2 H3 fun y H4 => ∃ acc, H4 D = some (.lst acc) ∧ acc.length < sizeLine ∧ Nx (upd H4 D (.lst (acc ++ [y]))) else Nx H3) :=
  lcR n (fun x => some (f x)) R' gh hD (by rw [fm_map, List.length_map, List.length_range]; exact hz) (turn_of hs) (by rw [fm_map]; exact hd) hm
end
end Sp
end

section
set_option Elab.async false
set_option linter.all false
set_option maxRecDepth 100000
set_option maxHeartbeats 4000000
/-! Sparetrees: the small defs. -/
namespace Sp
open PySem PySem.Spec PyProof.Rows L2
section
variable {P : Program} {w : World} {K : PySem.W.Frag} {mg : Str → Option Value} {base : Heap}
def sp_is_integer : L2.Sp := fun vs H Q _ => ∃ i : Int, vs = [.int i] ∧ Q (.bl true) H
abbrev N_is_integer : List Str := ["thing"]
theorem sc_is_integer : FnScope N_is_integer ["thing"] (defScope (topS 2)) := ⟨rfl, rfl, rfl, by decide +kernel, rfl, by decide +kernel, by decide +kernel⟩
theorem ok_is_integer (T : Txt K mg) : Keeps P w K mg base 1 "is_integer" ["thing"] (sp_is_integer) := by
  refine T.d_is_integer.keeps sc_is_integer (fun _ _ _ _ _ _ us hl => match us, hl with | [_], _ => rfl) (fun vs H Q E h => ?_) (fun cdv A outer s H vs Q E hr h => ?_)
  · obtain ⟨i, rfl, k⟩ := h; rfl
  · have hu := hu_of hr
    obtain ⟨i, rfl, k⟩ := h
    refine ⟨_, (pss_one (ps_ret (pe_and (pe_callB call_isi (by rfl) T.b_isinstance (by decide +kernel) (pa_cons (pv 0) (pa_cons (pe_bltn (v := .ty "int") rfl T.b_int (by decide +kernel) rfl) pa_nil))) (pe_one (pe_not (pe_callB call_isi (by rfl) T.b_isinstance (by decide +kernel) (pa_cons (pv 0) (pa_cons (pe_bltn (v := .ty "bool") rfl T.b_bool (by decide +kernel) rfl) pa_nil)))))))), ?_⟩
    refine ⟨_, rfl, _, _, _, _, true, rfl, .ty _, .base (.int _), kit_ty (by decide +kernel), _, rfl, ?_⟩
    show _
    refine ⟨_, rfl, _, _, _, _, false, rfl, .ty _, .base (.int _), kit_ty (by decide +kernel), _, rfl, ?_⟩
    exact k
def sp_is_within : L2.Sp := fun vs H Q _ => ∃ i a b : Int, vs = [.int i, .int a, .int b] ∧ Q (.bl (decide (a ≤ i ∧ i ≤ b))) H
abbrev N_is_within : List Str := ["thing", "least", "most"]
theorem sc_is_within : FnScope N_is_within ["thing", "least", "most"] (defScope (topS 3)) := ⟨rfl, rfl, rfl, by decide +kernel, rfl, by decide +kernel, by decide +kernel⟩
theorem ok_is_within (T : Txt K mg) : Keeps P w K mg base 2 "is_within" ["thing", "least", "most"] (sp_is_within) := by
  have G_is_integer := ok_is_integer (P := P) (w := w) (base := base) T
  refine T.d_is_within.keeps sc_is_within (fun _ _ _ _ _ _ us hl => match us, hl with | [_, _, _], _ => rfl) (fun vs H Q E h => ?_) (fun cdv A outer s H vs Q E hr h => ?_)
  · obtain ⟨i, a, b, rfl, k⟩ := h; rfl
  · have hu := hu_of hr
    obtain ⟨i, a, b, rfl, k⟩ := h
    refine ⟨_, (pss_one (ps_ret (pe_and (pcall G_is_integer (hr.mono (by decide)) rfl (pa_cons (pv 0) pa_nil)) (pe_one (pe_chain op_le op_le (pv 1) (pv 0) (pv 2)))))), ?_⟩
    refine ⟨_, rfl, i, rfl, true, rfl, ?_⟩
    show _
    refine ⟨_, rfl, _, rfl, _, _, rfl, rfl, _, rfl, ?_⟩
    refine ife (fun c => ⟨_, rfl, _, _, rfl, rfl, ?_⟩) (fun c => ?_)
    · have e : decide (i ≤ b) = decide (a ≤ i ∧ i ≤ b) := by simp [of_decide_eq_true c]
      show Q (.bl (decide (i ≤ b))) H
      rw [e]; exact k
    · have e : false = decide (a ≤ i ∧ i ≤ b) := by have := of_decide_eq_false c; simp [this]
      show Q (.bl false) H
      rw [e]; exact k
def sp_is_pair : L2.Sp := fun vs H Q _ => ∃ p xs, vs = [.ref p] ∧ H p = some (.tup xs) ∧ xs.length = 2 ∧ Q (.bl true) H
abbrev N_is_pair : List Str := ["thing"]
theorem sc_is_pair : FnScope N_is_pair ["thing"] (defScope (topS 4)) := ⟨rfl, rfl, rfl, by decide +kernel, rfl, by decide +kernel, by decide +kernel⟩
theorem ok_is_pair (T : Txt K mg) : Keeps P w K mg base 1 "is_pair" ["thing"] (sp_is_pair) := by
  refine T.d_is_pair.keeps sc_is_pair (fun _ _ _ _ _ _ us hl => match us, hl with | [_], _ => rfl) (fun vs H Q E h => ?_) (fun cdv A outer s H vs Q E hr h => ?_)
  · obtain ⟨p, xs, rfl, hp, h2, k⟩ := h; rfl
  · have hu := hu_of hr
    obtain ⟨p, xs, rfl, hp, h2, k⟩ := h
    refine ⟨_, (pss_one (ps_ret (pe_and (pe_callB call_isi (by rfl) T.b_isinstance (by decide +kernel) (pa_cons (pv 0) (pa_cons (pe_bltn (v := .ty "tuple") rfl T.b_tuple (by decide +kernel) rfl) pa_nil))) (pe_one (pe_cmpR op_eq (pe_callB call_len_seq (by rfl) T.b_len (by decide +kernel) (pa_cons (pv 0) pa_nil)) pe_int (nomark _)))))), ?_⟩
    refine ⟨_, rfl, _, _, _, _, true, rfl, .ty _, .base (.tup hp), kit_ty (by decide +kernel), _, rfl, ?_⟩
    show _
    refine ⟨_, rfl, p, _, rfl, .inr (SqT.of hp), rfl, ?_⟩
    rw [h2]; exact k
def sp_is_lot : L2.Sp := fun vs H Q _ => ∃ (p : Addr) (ns : List Nat) (m : Nat), vs = [.ref p, nV m] ∧ H p = some (.tup (ns.map nV)) ∧ ns.Pairwise (· < ·) ∧ (∀ x ∈ ns, x < m) ∧ Q (.bl true) H
abbrev N_is_lot : List Str := ["thing", "many", "last", "number"]
theorem sc_is_lot : FnScope N_is_lot ["thing", "many"] (defScope (topS 5)) := ⟨rfl, rfl, rfl, by decide +kernel, rfl, by decide +kernel, by decide +kernel⟩
theorem ok_is_lot (T : Txt K mg) : Keeps P w K mg base 3 "is_lot" ["thing", "many"] (sp_is_lot) := by
  have G_is_within := ok_is_within (P := P) (w := w) (base := base) T
  refine T.d_is_lot.keeps sc_is_lot (fun _ _ _ _ _ _ us hl => match us, hl with | [_, _], _ => rfl) (fun vs H Q E h => ?_) (fun cdv A outer s H vs Q E hr h => ?_)
  · obtain ⟨p, ns, m, rfl, hp, h1, h2, k⟩ := h; rfl
  · have hu := hu_of hr
    obtain ⟨p, ns, m, rfl, hp, h1, h2, k⟩ := h
    refine ⟨_, (pss_cons (ps_if (pt_not (pt_val (pe_callB call_isi (by rfl) T.b_isinstance (by decide +kernel) (pa_cons (pv 0) (pa_cons (pe_bltn (v := .ty "tuple") rfl T.b_tuple (by decide +kernel) rfl) pa_nil)))))
      (pss_one (ps_ret pe_bl))
      pss_nil)
      (pss_cons (ps_set (i := 2) sc_is_lot.nd rfl (Or.inl rfl) (pe_un un_neg pe_int))
      (pss_cons (ps_for PassesOwn.never rfl (pi_tup (pv 0)) (pg_name (i := 3) sc_is_lot.nd rfl (Or.inl rfl))
      (pss_cons (ps_if (pt_not (pt_val (pcall G_is_within (hr.mono (by decide)) rfl (pa_cons (pv 3) (pa_cons (pe_op op_add (pv 2) pe_int) (pa_cons (pe_op op_sub (pv 1) pe_int) pa_nil))))))
        (pss_one (ps_ret pe_bl))
        pss_nil)
        (pss_one (ps_set (i := 2) sc_is_lot.nd rfl (Or.inl rfl) (pv 3)))))
      (pss_one (ps_ret pe_bl))))), ?_⟩
    refine ⟨_, rfl, _, _, _, _, true, rfl, .ty _, .base (.tup hp), kit_ty (by decide +kernel), _, rfl, ?_⟩
    refine iteF ?_
    refine ⟨_, rfl, ?_⟩
    refine ⟨_, rfl, p, rfl, ⟨_, SqT.of hp⟩, for_tup (xs := ns.map nV) (fun i σ H' => H' = H ∧ ∃ (l : Int) (o : Option V), σ = [some (.ref p), some (nV m), some (.int l), o] ∧ -1 ≤ l ∧ ∀ x ∈ ns.drop i, l < (x : Int)) ⟨rfl, -1, _, rfl, by decide, fun x _ => by omega⟩
      (fun i σ H1 _ h => by rw [h.1]; exact SqT.of hp) ?_ ?_⟩
    · rintro i x σ H' hx ⟨rfl, l, o, rfl, hl, hd⟩
      rw [List.getElem?_map] at hx
      obtain ⟨y, hy, rfl⟩ := Option.map_eq_some_iff.mp hx
      have hym : y ∈ ns := List.mem_of_getElem? hy
      have hd2 : ns.drop i = y :: ns.drop (i + 1) := by
        obtain ⟨hi, e⟩ := List.getElem?_eq_some_iff.mp hy
        rw [← e, ← List.drop_eq_getElem_cons hi]
      have hly := hd y (by rw [hd2]; exact List.mem_cons_self)
      have hp2 : (y :: ns.drop (i + 1)).Pairwise (· < ·) := by rw [← hd2]; exact h1.drop
      have hym2 := h2 y hym
      refine ⟨_, rfl, _, rfl, _, _, rfl, rfl, _, rfl, _, _, rfl, rfl, (y : Int), l + 1, (m : Int) - 1, rfl, ?_⟩
      have e : decide (l + 1 ≤ (y : Int) ∧ (y : Int) ≤ (m : Int) - 1) = true := decide_eq_true (by omega)
      rw [e]
      refine ⟨true, rfl, iteF ?_⟩
      refine ⟨_, rfl, rfl, y, _, rfl, by omega, fun x hx2 => ?_⟩
      have := (List.pairwise_cons.mp hp2).1 x hx2
      omega
    · rintro σ H' ⟨rfl, l, o, rfl, hl, hd⟩
      exact k
def sp_is_link : L2.Sp := fun vs H Q _ => ∃ (n a b : Nat) (v : V) (G : Hp), vs = [nV n, v] ∧ Same G H ∧ rP rN rN (a, b) v G ∧ a < n ∧ b < n ∧ a ≠ b ∧ ∀ G' H', Xt Pu G H G' H' → Q (.bl true) H'
abbrev N_is_link : List Str := ["many", "thing", "place"]
theorem sc_is_link : FnScope N_is_link ["many", "thing"] (defScope (topS 22)) := ⟨rfl, rfl, rfl, by decide +kernel, rfl, by decide +kernel, by decide +kernel⟩
theorem ok_is_link (T : Txt K mg) : Keeps P w K mg base 3 "is_link" ["many", "thing"] (sp_is_link) := by
  have G_is_within := ok_is_within (P := P) (w := w) (base := base) T
  have G_is_pair := ok_is_pair (P := P) (w := w) (base := base) T
  refine T.d_is_link.keeps sc_is_link (fun _ _ _ _ _ _ us hl => match us, hl with | [_, _], _ => rfl) (fun vs H Q E h => ?_) (fun cdv A outer s H vs Q E hr h => ?_)
  · obtain ⟨n, a, b, v, G, rfl, gh, ⟨p, _, _, rfl, hp, rfl, rfl⟩, ha, hb, hab, k⟩ := h; rfl
  · have hu := hu_of hr
    obtain ⟨n, a, b, v, G, rfl, gh, ⟨p, _, _, rfl, hp, rfl, rfl⟩, ha, hb, hab, k⟩ := h
    refine ⟨_, (pss_cons (ps_if (PW.pt (pw_or (pt_not (pt_val (pcall G_is_pair (hr.mono (by decide)) rfl (pa_cons (pv 1) pa_nil)))) (pw_or1 (pt_not (pt_val (pe_callB (cr_all rfl) (by rfl) T.b_all (by decide +kernel) (pa_cons (pe_lc (own := [("place", 2)]) (g := gName 2) (tt := tYes) (by rfl) sc_is_link.nd (pi_tup (pv 1)) (blkOk_by (N := N_is_link) (sc := defScope (topS 22)) (by decide +kernel)) (fun _ _ _ _ _ => pg_name (i := 2) sc_is_link.nd rfl (Or.inl rfl)) (fun _ _ _ _ _ => pts_nil) (fun _ _ _ _ _ => (pcall G_is_within (hr.mono (by decide)) rfl (pa_cons (pv 2) (pa_cons pe_int (pa_cons (pe_op op_sub (pv 0) pe_int) pa_nil)))))) pa_nil)))))))
      (pss_one (ps_ret pe_bl))
      pss_nil)
      (pss_one (ps_ret (pe_cmpR op_ne (pe_ix ix_tup (pv 1) pe_int (fun _ _ => rfl)) (pe_ix ix_tup (pv 1) pe_int (fun _ _ => rfl)) (nomark _))))), ?_⟩
    refine ⟨_, rfl, p, _, rfl, gh _ _ hp, rfl, true, rfl, iteF ?_⟩
    refine ⟨_, rfl, p, rfl, ⟨_, SqT.of (gh _ _ hp)⟩, fun D hD => lcTm [a, b] (fun _ => true) rN rB gh hp (nat_all2 [a, b]) hD (by show 2 < _; decide) ?_ ?_⟩
    · rintro j x v G1 H1 hx rfl e Q2 k2
      have hx2 : x < n := by
        have := List.mem_of_getElem? hx
        simp at this
        rcases this with rfl | rfl <;> assumption
      refine ⟨_, rfl, _, rfl, _, _, rfl, rfl, (x : Int), 0, (n : Int) - 1, rfl, ?_⟩
      rw [decide_eq_true (by omega)]
      exact k2 _ G1 H1 (Xt.refl e.gh) rfl
    · rintro G1 H1 acc e hD1 gD ha2
      rw [all2_bool ha2] at hD1
      refine ⟨D, _, rfl, SqL.of hD1, true, rfl, iteF ?_⟩
      refine ⟨_, rfl, p, _, _, _, rfl, rfl, SqT.of (e.old hp), rfl, ?_⟩
      refine ⟨_, rfl, p, _, _, _, rfl, rfl, SqT.of (e.old hp), rfl, rfl, ?_⟩
      have e2 : (!decide (nV a = nV b)) = true := by have := hab; simp; omega
      show Q (.bl (!decide (nV a = nV b))) H1
      rw [e2]
      exact k _ _ e
def sp_check_net (K : PySem.W.Frag) : L2.Sp := fun vs H Q _ => ∃ n r L v, vs = [v] ∧ NetO K n r L v H ∧ Q .non H
abbrev N_check_net : List Str := ["net"]
theorem sc_check_net : FnScope N_check_net ["net"] (defScope (topS 23)) := ⟨rfl, rfl, rfl, by decide +kernel, rfl, by decide +kernel, by decide +kernel⟩
theorem ok_check_net (T : Txt K mg) : Keeps P w K mg base 1 "check_net" ["net"] (sp_check_net K) := by
  refine T.d_check_net.keeps sc_check_net (fun _ _ _ _ _ _ us hl => match us, hl with | [_], _ => rfl) (fun vs H Q E h => ?_) (fun cdv A outer s H vs Q E hr h => ?_)
  · obtain ⟨n, r, L, v, rfl, ⟨p, dx, lv, rfl, hp, hl⟩, k⟩ := h; rfl
  · have hu := hu_of hr
    obtain ⟨n, r, L, v, rfl, ⟨p, dx, lv, rfl, hp, hl⟩, k⟩ := h
    refine ⟨_, (pss_one (ps_if (pt_not (pt_val (pe_callB call_isi (by rfl) T.b_isinstance (by decide +kernel) (pa_cons (pv 0) (pa_cons (pe_glob (v := .ref (He.ga K "Net")) rfl T.net.g rfl) pa_nil)))))
      (pss_one ps_never)
      pss_nil)), ?_⟩
    refine ⟨_, rfl, _, _, _, _, true, rfl, .own _, .base (.ins hp T.net.cl T.net.cl1 T.net.cl2 T.net.cl3 T.net.cl4), T.net.kit, _, rfl, iteF ?_⟩
    exact k
def sp_check_plan (K : PySem.W.Frag) : L2.Sp := fun vs H Q _ => ∃ n r L t k D v, vs = [v] ∧ PlanO K n r L t k D v H ∧ Q .non H
abbrev N_check_plan : List Str := ["thing"]
theorem sc_check_plan : FnScope N_check_plan ["thing"] (defScope (topS 41)) := ⟨rfl, rfl, rfl, by decide +kernel, rfl, by decide +kernel, by decide +kernel⟩
theorem ok_check_plan (T : Txt K mg) : Keeps P w K mg base 1 "check_plan" ["thing"] (sp_check_plan K) := by
  refine T.d_check_plan.keeps sc_check_plan (fun _ _ _ _ _ _ us hl => match us, hl with | [_], _ => rfl) (fun vs H Q E h => ?_) (fun cdv A outer s H vs Q E hr h => ?_)
  · obtain ⟨n, r, L, t, k', D, v, rfl, ⟨p, dx, nv, tv, dv, rfl, hp, _⟩, k⟩ := h; rfl
  · have hu := hu_of hr
    obtain ⟨n, r, L, t, k', D, v, rfl, ⟨p, dx, nv, tv, dv, rfl, hp, _⟩, k⟩ := h
    refine ⟨_, (pss_one (ps_if (pt_not (pt_val (pe_callB call_isi (by rfl) T.b_isinstance (by decide +kernel) (pa_cons (pv 0) (pa_cons (pe_glob (v := .ref (He.ga K "Plan")) rfl T.plan.g rfl) pa_nil)))))
      (pss_one ps_never)
      pss_nil)), ?_⟩
    refine ⟨_, rfl, _, _, _, _, true, rfl, .own _, .base (.ins hp T.plan.cl T.plan.cl1 T.plan.cl2 T.plan.cl3 T.plan.cl4), T.plan.kit, _, rfl, iteF ?_⟩
    exact k
def sp_depth_of (K : PySem.W.Frag) : L2.Sp := fun vs H Q _ => ∃ n r L t k D v i p d e, vs = [v, nV i, nV p] ∧ PlanO K n r L t k D v H ∧ D[i]? = some d ∧ d[p]? = some e ∧ Q (nV e) H
abbrev N_depth_of : List Str := ["plan", "tree", "place"]
theorem sc_depth_of : FnScope N_depth_of ["plan", "tree", "place"] (defScope (topS 42)) := ⟨rfl, rfl, rfl, by decide +kernel, rfl, by decide +kernel, by decide +kernel⟩
theorem ok_depth_of (T : Txt K mg) : Keeps P w K mg base 1 "depth_of" ["plan", "tree", "place"] (sp_depth_of K) := by
  refine T.d_depth_of.keeps sc_depth_of (fun _ _ _ _ _ _ us hl => match us, hl with | [_, _, _], _ => rfl) (fun vs H Q E h => ?_) (fun cdv A outer s H vs Q E hr h => ?_)
  · obtain ⟨n, r, L, t, k', D, v, i, p, d, e, rfl, ⟨q, dx, nv, tv, dv, rfl, hp, _, _, hd⟩, h1, h2, k⟩ := h; rfl
  · have hu := hu_of hr
    obtain ⟨n, r, L, t, k', D, v, i, p, d, e, rfl, ⟨q, dx, nv, tv, dv, rfl, hp, _, _, hd⟩, h1, h2, k⟩ := h
    refine ⟨_, (pss_one (ps_ret (pe_ix ix_tup (pe_ix ix_list (pe_fld (pv 0) rfl) (pv 1) (fun _ _ => rfl)) (pv 2) (fun _ _ => rfl)))), ?_⟩
    obtain ⟨dp, ds, rfl, hdp, hds⟩ := hd
    obtain ⟨dv, hdv, dq, es, rfl, hdq, hes⟩ := All2.get hds h1
    obtain ⟨ev, hev, rfl⟩ := All2.get hes h2
    refine ⟨_, rfl, q, _, _, _, _, rfl, hp, T.plan.cl, T.plan_depths, rfl, ?_⟩
    refine ⟨_, rfl, dp, _, _, _, rfl, rfl, SqL.of hdp, atI_nat hdv, ?_⟩
    refine ⟨_, rfl, dq, _, _, _, rfl, rfl, SqT.of hdq, atI_nat hev, ?_⟩
    exact k
def sp_check_lost (K : PySem.W.Frag) : L2.Sp := fun vs H Q _ => ∃ (n r : Nat) (L : List (Nat × Nat)) (v : V) (p : Addr) (ns : List Nat), vs = [v, .ref p] ∧ NetO K n r L v H ∧ H p = some (.tup (ns.map nV)) ∧ ns.Pairwise (· < ·) ∧ (∀ x ∈ ns, x < L.length) ∧ Q .non H
abbrev N_check_lost : List Str := ["net", "thing"]
theorem sc_check_lost : FnScope N_check_lost ["net", "thing"] (defScope (topS 44)) := ⟨rfl, rfl, rfl, by decide +kernel, rfl, by decide +kernel, by decide +kernel⟩
theorem ok_check_lost (T : Txt K mg) : Keeps P w K mg base 4 "check_lost" ["net", "thing"] (sp_check_lost K) := by
  have G_is_lot := ok_is_lot (P := P) (w := w) (base := base) T
  refine T.d_check_lost.keeps sc_check_lost (fun _ _ _ _ _ _ us hl => match us, hl with | [_, _], _ => rfl) (fun vs H Q E h => ?_) (fun cdv A outer s H vs Q E hr h => ?_)
  · obtain ⟨n, r, L, v, p, ns, rfl, ⟨q, dx, lv, rfl, hq, lp, ls, rfl, hlp, hls⟩, hp, h1, h2, k⟩ := h; rfl
  · have hu := hu_of hr
    obtain ⟨n, r, L, v, p, ns, rfl, ⟨q, dx, lv, rfl, hq, lp, ls, rfl, hlp, hls⟩, hp, h1, h2, k⟩ := h
    refine ⟨_, (pss_one (ps_if (pt_not (pt_val (pcall G_is_lot (hr.mono (by decide)) rfl (pa_cons (pv 1) (pa_cons (pe_callB call_len_seq (by rfl) T.b_len (by decide +kernel) (pa_cons (pe_fld (pv 0) rfl) pa_nil)) pa_nil)))))
      (pss_one ps_never)
      pss_nil)), ?_⟩
    refine ⟨_, rfl, _, rfl, q, _, _, _, _, rfl, hq, T.net.cl, T.net_links, rfl, lp, _, rfl, .inr (SqT.of hlp), ?_⟩
    rw [hls.len]
    refine ⟨p, ns, L.length, rfl, hp, h1, h2, true, rfl, iteF ?_⟩
    exact k
def sp_is_lot_of (K : PySem.W.Frag) : L2.Sp := fun vs H Q _ => ∃ (n r : Nat) (L : List (Nat × Nat)) (v : V) (p : Addr) (ns : List Nat), vs = [v, .ref p] ∧ NetO K n r L v H ∧ H p = some (.tup (ns.map nV)) ∧ ns.Pairwise (· < ·) ∧ (∀ x ∈ ns, x < L.length) ∧ Q (.bl true) H
abbrev N_is_lot_of : List Str := ["net", "thing"]
theorem sc_is_lot_of : FnScope N_is_lot_of ["net", "thing"] (defScope (topS 24)) := ⟨rfl, rfl, rfl, by decide +kernel, rfl, by decide +kernel, by decide +kernel⟩
theorem ok_is_lot_of (T : Txt K mg) : Keeps P w K mg base 4 "is_lot_of" ["net", "thing"] (sp_is_lot_of K) := by
  have G_is_lot := ok_is_lot (P := P) (w := w) (base := base) T
  refine T.d_is_lot_of.keeps sc_is_lot_of (fun _ _ _ _ _ _ us hl => match us, hl with | [_, _], _ => rfl) (fun vs H Q E h => ?_) (fun cdv A outer s H vs Q E hr h => ?_)
  · obtain ⟨n, r, L, v, p, ns, rfl, ⟨q, dx, lv, rfl, hq, lp, ls, rfl, hlp, hls⟩, hp, h1, h2, k⟩ := h; rfl
  · have hu := hu_of hr
    obtain ⟨n, r, L, v, p, ns, rfl, ⟨q, dx, lv, rfl, hq, lp, ls, rfl, hlp, hls⟩, hp, h1, h2, k⟩ := h
    refine ⟨_, (pss_one (ps_ret (pcall G_is_lot (hr.mono (by decide)) rfl (pa_cons (pv 1) (pa_cons (pe_callB call_len_seq (by rfl) T.b_len (by decide +kernel) (pa_cons (pe_fld (pv 0) rfl) pa_nil)) pa_nil))))), ?_⟩
    refine ⟨_, rfl, _, rfl, q, _, _, _, _, rfl, hq, T.net.cl, T.net_links, rfl, lp, _, rfl, .inr (SqT.of hlp), ?_⟩
    rw [hls.len]
    exact ⟨p, ns, L.length, rfl, hp, h1, h2, k⟩
end
end Sp
end

section
set_option Elab.async false
set_option linter.all false
set_option maxRecDepth 100000
set_option maxHeartbeats 4000000
/-! Sparetrees: reached. -/
namespace Sp
open PySem PySem.Spec PyProof.Rows L2
section
variable {P : Program} {w : World} {K : PySem.W.Frag} {mg : Str → Option Value} {base : Heap}
section
variable {n r : Nat} {L : List Lk} {v : V} {G H : Hp} {σ : L2.St} {a b i : Nat} {Q : VK}
theorem rd_link0 (T : Txt K mg) (N : NetO K n r L v G) (gh : Same G H) (h0 : σ[a]? = some (some v)) (h1 : σ[b]? = some (some (nV i))) (hi : i < L.length) (k : Q (nV (lk L i).1) H) :
    tOp (rIxT K) (tOp (rIxT K) (tFld K (tVar a) "links") (tVar b)) (tC (.int 0)) σ H Q := by
  obtain ⟨q, dx, lv, rfl, hq, lp, ls, rfl, hlp, hls⟩ := N
  obtain ⟨u, hu, p, x, y, rfl, hp, rfl, rfl⟩ := All2.get hls (lk_get hi)
  exact ⟨_, h0, q, _, _, _, _, rfl, gh _ _ hq, T.net.cl, T.net_links, rfl, _, h1, lp, _, _, _, rfl, rfl, SqT.of (gh _ _ hlp), atI_nat hu, p, _, 0, _, rfl, rfl, SqT.of (gh _ _ hp), rfl, k⟩
theorem rd_link1 (T : Txt K mg) (N : NetO K n r L v G) (gh : Same G H) (h0 : σ[a]? = some (some v)) (h1 : σ[b]? = some (some (nV i))) (hi : i < L.length) (k : Q (nV (lk L i).2) H) :
    tOp (rIxT K) (tOp (rIxT K) (tFld K (tVar a) "links") (tVar b)) (tC (.int 1)) σ H Q := by
  obtain ⟨q, dx, lv, rfl, hq, lp, ls, rfl, hlp, hls⟩ := N
  obtain ⟨u, hu, p, x, y, rfl, hp, rfl, rfl⟩ := All2.get hls (lk_get hi)
  exact ⟨_, h0, q, _, _, _, _, rfl, gh _ _ hq, T.net.cl, T.net_links, rfl, _, h1, lp, _, _, _, rfl, rfl, SqT.of (gh _ _ hlp), atI_nat hu, p, _, 1, _, rfl, rfl, SqT.of (gh _ _ hp), rfl, k⟩
end
def sp_reached (K : PySem.W.Frag) : L2.Sp := fun vs H Q _ => ∃ (n r : Nat) (L : List Lk) (v : V) (p q : Addr) (ns ps : List Nat) (G : Hp), vs = [v, .ref p, .ref q] ∧ Same G H ∧ NetO K n r L v G ∧ G p = some (.tup (ns.map nV)) ∧ G q = some (.lst (ps.map nV)) ∧
  n ≤ 10 ∧ (∀ x ∈ ns, x < L.length ∧ (lk L x).2 < n) ∧ ps.Nodup ∧ (∀ x ∈ ps, x < n) ∧ ns.length < 64 ∧
  ∀ (G' H' : Hp) (f : Addr) (F : List Nat), Xt Pu G H G' H' → G' f = some (.lst (F.map nV)) → (∀ x ∈ ps, x ∈ F) → (∀ x ∈ ns, (lk L x).1 ∈ F → (lk L x).2 ∈ F) → Q (.ref f) H'
def RI (n : Nat) (L : List Lk) (v : V) (p q fp : Addr) (ns ps : List Nat) (G H : Hp) (m : Nat) (σ : L2.St) (H1 : Hp) : Prop := ∃ (G1 : Hp) (F : List Nat) (b : Bool) (e me : Option V), σ = [some v, some (.ref p), some (.ref q), some (.ref fp), some (.bl b), e, me, none, none] ∧ Xt Pu G H G1 H1 ∧ G1 fp = none ∧ H1 fp = some (.lst (F.map nV)) ∧ F.Nodup ∧ (∀ x ∈ F, x < n) ∧ (∀ x ∈ ps, x ∈ F) ∧ (b = false → ∀ x ∈ ns, (lk L x).1 ∈ F → (lk L x).2 ∈ F) ∧ m = (if b = true then 1 else 0) + (10 - F.length)
abbrev N_reached : List Str := ["net", "lot", "places", "found", "is_longer", "ends", "more", "link", "place"]
theorem sc_reached : FnScope N_reached ["net", "lot", "places"] (defScope (topS 26)) := ⟨rfl, rfl, rfl, by decide +kernel, rfl, by decide +kernel, by decide +kernel⟩
theorem ok_reached (T : Txt K mg) : Keeps P w K mg base 1 "reached" ["net", "lot", "places"] (sp_reached K) := by
  refine T.d_reached.keeps sc_reached (fun _ _ _ _ _ _ us hl => match us, hl with | [_, _, _], _ => rfl) (fun vs H Q E h => ?_) (fun cdv A outer s H vs Q E hr h => ?_)
  · obtain ⟨n, r, L, v, p, q, ns, ps, G, rfl, gh, N, hp, hq, hn, hns, hnd, hps, hnl, k⟩ := h; rfl
  · have hu := hu_of hr
    obtain ⟨n, r, L, v, p, q, ns, ps, G, rfl, gh, N, hp, hq, hn, hns, hnd, hps, hnl, k⟩ := h
    refine ⟨_, (pss_cons (ps_set (i := 3) sc_reached.nd rfl (Or.inr rfl) (pe_callTy call_list_of (by rfl) T.b_list (by decide +kernel) (pa_cons (pv 2) pa_nil)))
      (pss_cons (ps_set (i := 4) sc_reached.nd rfl (Or.inl rfl) pe_bl)
      (pss_cons (ps_while PassesOwn.never (pt_val (pv 4))
      (pss_cons (ps_setLc (i := 5) (own := [("link", 7)]) (g := gName 7) (by rfl) sc_reached.nd rfl rfl (sw_true rfl rfl rfl (by decide +kernel)) (pi_tup (pv 1)) (blkOk_by (N := N_reached) (sc := defScope (topS 26)) (by decide +kernel)) (fun _ _ _ _ _ => pg_name (i := 7) sc_reached.nd rfl (Or.inl rfl)) (fun _ _ _ _ _ => (pts_one (pt_cmpR (op_in_seqK (K := K)) (pe_ix (ix_tupK (K := K)) (pe_ix (ix_tupK (K := K)) (pe_fldK (K := K) (pv 0) rfl) (pv 7) (fun _ _ => rfl)) pe_int (fun _ _ => rfl)) (pv 3) (by rfl)))) (fun _ _ _ _ _ => (pe_ix (ix_tupK (K := K)) (pe_ix (ix_tupK (K := K)) (pe_fldK (K := K) (pv 0) rfl) (pv 7) (fun _ _ => rfl)) pe_int (fun _ _ => rfl))))
        (pss_cons (ps_set (i := 6) sc_reached.nd rfl (Or.inl rfl) (pe_callB (cr_sortedSet rfl) (by rfl) T.b_sorted (by decide +kernel) (pa_cons (pe_callTy (cr_setLI rfl) (by rfl) T.b_set (by decide +kernel) (pa_cons (pe_lc (own := [("place", 8)]) (g := gName 8) (by rfl) sc_reached.nd (pi_list (pv 5)) (blkOk_by (N := N_reached) (sc := defScope (topS 26)) (by decide +kernel)) (fun _ _ _ _ _ => pg_name (i := 8) sc_reached.nd rfl (Or.inl rfl)) (fun _ _ _ _ _ => (pts_one (pt_cmpR (op_notIn_seqK (K := K)) (pv 8) (pv 3) (by rfl)))) (fun _ _ _ _ _ => (pv 8))) pa_nil)) pa_nil)))
        (pss_cons (ps_set (i := 4) sc_reached.nd rfl (Or.inl rfl) (pe_cmpR op_gt (pe_callB call_len_seq (by rfl) T.b_len (by decide +kernel) (pa_cons (pv 6) pa_nil)) pe_int (nomark _)))
        (pss_one (ps_expr (pe_bm PySem.F.plainAttrs_list PySem.F.slot_list_extend PySem.F.type_list_extend mt_extend (pv 3) (pa_cons (pv 6) pa_nil))))))))
      (pss_one (ps_ret (pv 3)))))), ?_⟩
    refine ⟨_, rfl, q, _, rfl, .inl (SqL.of (gh _ _ hq)), fun fp hfp => ?_⟩
    refine ⟨RI n L v p q fp ns ps G H, ?_, ?_⟩
    · exact ⟨_, G, ps, true, none, none, rfl, (Xt.refl gh).newM hfp _, (Xt.refl (m := Pu) gh).gnone hfp, upd_same, hnd, hps, fun _ h => h, (fun z => Bool.noConfusion z), rfl⟩
    · rintro m σ H1 ⟨G1, F, b, e, me, rfl, x1, gf, hf, fnd, fn, fps, fcl, rfl⟩
      refine ⟨_, rfl, b, rfl, ?_⟩
      cases b with
      | false =>
        refine iteF ⟨_, rfl, ?_⟩
        exact k _ _ fp F (x1.freeze hfp gf hf) upd_same fps (fcl rfl)
      | true =>
        refine iteT ⟨fun σ' H' => ∃ m', m' < (if true = true then 1 else 0) + (10 - F.length) ∧ RI n L v p q fp ns ps G H m' σ' H', fun _ _ z => z, ?_⟩
        refine ⟨_, rfl, p, rfl, ⟨_, SqT.of (x1.old hp)⟩, fun E hE => lcT ns (fun i => if (lk L i).1 ∈ F then some (lk L i).2 else none) rN rN x1.gh (x1.gg _ _ hp) (nat_all2 ns) hE ?_ ?_ ?_⟩
        · refine Nat.lt_of_le_of_lt (List.length_filterMap_le _ _) (Nat.lt_trans hnl (by decide))
        · rintro j x _ G2 H2 hx rfl x2 Q1 Q2 k1 k2
          have hxm := List.mem_of_getElem? hx
          refine rd_link0 T N (x1.gg.trans x2.gg |>.trans x2.gh) rfl rfl (hns x hxm).1 ?_
          refine ⟨_, rfl, fp, _, rfl, .inl (SqL.of (x2.hh _ _ (fun z => z) hf)), rfl, flat_nat F, ?_⟩
          rw [show (if false = true then !inV (nV (lk L x).1) (F.map nV) else inV (nV (lk L x).1) (F.map nV)) = inV (nV (lk L x).1) (F.map nV) from rfl, inV_nat]
          refine ⟨_, rfl, ite2 (fun c => ?_) (fun c => ?_)⟩
          · refine rd_link1 T N (x1.gg.trans x2.gg |>.trans x2.gh) rfl rfl (hns x hxm).1 ?_
            exact k2 _ (if_pos (of_decide_eq_true c)) _ _ _ (Xt.refl x2.gh) rfl
          · exact k1 (if_neg fun z => c (decide_eq_true z)) _ _ (Xt.refl x2.gh)
        · rintro G2 H2 acc x2 hE2 gE2 aE
          have x3 := x2.freeze hE gE2 hE2
          rw [all2_nat aE] at hE2 x3
          refine ⟨_, rfl, E, rfl, ⟨_, SqL.of hE2⟩, fun E2 hEE => ?_⟩
          have hf2 : H2 fp = some (.lst (F.map nV)) := x2.hh _ _ (fun z => z) hf
          have el : (ns.filterMap fun i => if (lk L i).1 ∈ F then some (lk L i).2 else none).length < 64 := Nat.lt_of_le_of_lt (List.length_filterMap_le _ _) hnl
          refine lcL (ns.filterMap fun i => if (lk L i).1 ∈ F then some (lk L i).2 else none) (fun y => if y ∉ F then some y else none) rN rN x3.gh upd_same (nat_all2 _) hEE ?_ ?_ ?_
          · exact Nat.lt_of_le_of_lt (List.length_filterMap_le _ _) (Nat.lt_trans el (by decide))
          · rintro j y _ G4 H4 hy rfl x4 Q1 Q2 k1 k2
            refine ⟨_, rfl, _, rfl, fp, _, rfl, .inl (SqL.of (x4.hh _ _ (fun z => z) hf2)), rfl, flat_nat F, ?_⟩
            rw [show (if true = true then !inV (nV y) (F.map nV) else inV (nV y) (F.map nV)) = !inV (nV y) (F.map nV) from rfl, inV_nat]
            refine ⟨_, rfl, ite2 (fun c => ?_) (fun c => ?_)⟩
            · have c' : y ∉ F := by simpa using c
              exact ⟨_, rfl, k2 _ (if_pos c') _ _ _ (Xt.refl x4.gh) rfl⟩
            · have c' : y ∈ F := by simpa using c
              exact k1 (if_neg fun z => z c') _ _ (Xt.refl x4.gh)
          · rintro G4 H4 acc2 x4 hE4 gE4 aE2
            have x5 := x3.trans x4
            have ha2 := all2_nat aE2
            rw [map_nV] at ha2
            rw [ha2] at hE4
            refine ⟨E2, _, rfl, SqL.of hE4, ?_, fun sa c hc hsa => ?_⟩
            · rw [List.length_map]; exact Nat.le_of_lt (Nat.lt_trans (Nat.lt_of_le_of_lt (List.length_filterMap_le _ _) el) (by decide))
            rw [List.length_map] at hc
            refine ⟨sa, _, c, rfl, upd_same, Nat.lt_of_le_of_lt hc (Nat.lt_of_le_of_lt (List.length_filterMap_le _ _) el), fun is mp hpw hmem hlen hmp => ?_⟩
            have x6 := x5.newM hsa (SetO w sa (fun j => decide (j ∈ (((ns.filterMap fun i => if (lk L i).1 ∈ F then some (lk L i).2 else none).filterMap fun y => if y ∉ F then some y else none).map fun n : Nat => (n : Int)))) c)
            have x7 := x6.newM hmp (.lst (is.map V.int))
            -- the numbers that are new
            have mem : ∀ k : Int, k ∈ is ↔ ∃ y : Nat, k = (y : Int) ∧ y ∉ F ∧ ∃ i ∈ ns, (lk L i).1 ∈ F ∧ (lk L i).2 = y := by
              intro k
              rw [hmem k, decide_eq_true_iff, List.mem_map]
              constructor
              · rintro ⟨y, hy, rfl⟩
                obtain ⟨z, hz, hzy⟩ := List.mem_filterMap.mp hy
                by_cases hzF : z ∉ F
                · rw [if_pos hzF] at hzy
                  cases hzy
                  obtain ⟨i, hi, hiz⟩ := List.mem_filterMap.mp hz
                  by_cases hiF : (lk L i).1 ∈ F
                  · rw [if_pos hiF] at hiz
                    cases hiz
                    exact ⟨_, rfl, hzF, i, hi, hiF, rfl⟩
                  · rw [if_neg hiF] at hiz; cases hiz
                · rw [if_neg hzF] at hzy; cases hzy
              · rintro ⟨y, rfl, hyF, i, hi, hiF, rfl⟩
                exact ⟨_, List.mem_filterMap.mpr ⟨_, List.mem_filterMap.mpr ⟨i, hi, if_pos hiF⟩, if_pos hyF⟩, rfl⟩
            have nn : ∀ k ∈ is, 0 ≤ k := fun k hk => by
              obtain ⟨y, rfl, _⟩ := (mem k).mp hk
              exact Int.natCast_nonneg y
            have eis : is.map V.int = (is.map Int.toNat).map nV := by rw [map_nV, ← nats_of is nn]
            have mem2 : ∀ y : Nat, y ∈ is.map Int.toNat ↔ y ∉ F ∧ ∃ i ∈ ns, (lk L i).1 ∈ F ∧ (lk L i).2 = y := by
              intro y
              rw [List.mem_map]
              constructor
              · rintro ⟨k, hk, rfl⟩
                obtain ⟨z, rfl, h2, h3⟩ := (mem k).mp hk
                exact ⟨by simpa using h2, by simpa using h3⟩
              · rintro ⟨h2, h3⟩
                exact ⟨(y : Int), (mem _).mpr ⟨y, rfl, h2, h3⟩, by simp⟩
            have nd2 : (is.map Int.toNat).Nodup := by
              rw [List.Nodup, List.pairwise_map]
              refine hpw.imp_of_mem fun {a b} ha hb hab h => ?_
              have := nn a ha; have := nn b hb; omega
            -- is_longer = len(more) > 0
            refine ⟨_, rfl, mp, _, rfl, .inl (SqL.of upd_same), _, _, rfl, rfl, ?_⟩
            have hf7 : (upd (upd H4 sa (SetO w sa (fun j => decide (j ∈ (((ns.filterMap fun i => if (lk L i).1 ∈ F then some (lk L i).2 else none).filterMap fun y => if y ∉ F then some y else none).map fun n : Nat => (n : Int)))) c)) mp (.lst (is.map V.int))) fp = some (.lst (F.map nV)) := x7.hh _ _ (fun z => z) hf
            have gf4 : G4 fp = none := x5.fr fp (by rw [hf]; simp) gf
            refine ⟨_, rfl, .inl ⟨rfl, _, SqL.of hf7⟩, _, rfl, fp, mp, _, _, rfl, rfl, hf7, upd_same, ?_, ?_⟩
            · have h1 : (F.map nV).length ≤ 10 := by
                rw [List.length_map]
                have := fnd.length_le_of_subset (l₂ := List.range n) fun x hx => List.mem_range.mpr (fn x hx)
                rw [List.length_range] at this; omega
              rw [List.length_map] at h1
              rw [List.length_map, List.length_map, hlen]
              have : c < 64 := Nat.lt_of_le_of_lt hc (Nat.lt_of_le_of_lt (List.length_filterMap_le _ _) el)
              have : (1000 : Nat) ≤ sizeLine := by decide
              omega
            have fnd2 : (F ++ is.map Int.toNat).Nodup := List.nodup_append.mpr ⟨fnd, nd2, fun a ha b hb hab => ((mem2 b).mp hb).1 (hab ▸ ha)⟩
            have fn2 : ∀ x ∈ F ++ is.map Int.toNat, x < n := fun x hx => by
              rcases List.mem_append.mp hx with h | h
              · exact fn x h
              · obtain ⟨_, i, hi, _, rfl⟩ := (mem2 x).mp h
                exact (hns i hi).2
            have len2 : (F ++ is.map Int.toNat).length ≤ 10 := by
              have := fnd2.length_le_of_subset (l₂ := List.range n) fun x hx => List.mem_range.mpr (fn2 x hx)
              rw [List.length_range] at this; omega
            refine ⟨_, ?_, G4, F ++ is.map Int.toNat, decide ((0 : Int) < ((is.map V.int).length : Int)), some (.ref E), some (.ref mp), rfl, (x1.trans x7).mut (.inl hfp) gf4 _, gf4, ?_, fnd2, fn2, fun x hx => List.mem_append_left _ (fps x hx), ?_, rfl⟩
            · rw [List.length_append, List.length_map] at len2 ⊢
              rw [List.length_map]
              cases hl : is.length with
              | zero => rw [if_neg (by simp), if_pos rfl]; omega
              | succ z => rw [if_pos (by simp), if_pos rfl]; omega
            · rw [upd_same, eis, List.map_append]
            · intro hb i hi h1
              have hl0 : is.length = 0 := by
                have := of_decide_eq_false hb
                rw [List.length_map] at this; omega
              have e0 : is = [] := List.length_eq_zero_iff.mp hl0
              subst e0
              rw [List.map_nil, List.append_nil] at h1 ⊢
              by_cases h2 : (lk L i).2 ∈ F
              · exact h2
              · have := (mem2 _).mpr ⟨h2, i, hi, h1, rfl⟩
                cases this
end
end Sp
end

section
set_option Elab.async false
set_option linter.all false
set_option maxRecDepth 100000
set_option maxHeartbeats 4000000
/-! Sparetrees: trees and packings are checked. -/
namespace Sp
open PySem PySem.Spec PyProof.Rows L2
section
variable {P : Program} {w : World} {K : PySem.W.Frag} {mg : Str → Option Value} {base : Heap}
theorem all_true {α : Type} (xs : List α) : ((xs.map fun _ => true).all id) = true := by
  induction xs with
  | nil => rfl
  | cons x xs ih => rw [List.map_cons, List.all_cons, ih]; rfl
theorem any_false {α : Type} (xs : List α) : ((xs.map fun _ => false).any id) = false := by
  induction xs with
  | nil => rfl
  | cons x xs ih => rw [List.map_cons, List.any_cons, ih]; rfl
theorem nodup_cast {ns : List Nat} (h : ns.Nodup) : (ns.map fun n : Nat => (n : Int)).Nodup := by
  rw [List.Nodup, List.pairwise_map]
  exact h.imp fun hab z => hab (Int.ofNat_inj.mp z)
def sp_is_wood (K : PySem.W.Frag) : L2.Sp := fun vs H Q _ => ∃ (n r : Nat) (L : List Lk) (v : V) (p q : Addr) (ns ps : List Nat) (G : Hp), vs = [v, .ref p, .ref q] ∧ Same G H ∧ NetO K n r L v G ∧ G p = some (.tup (ns.map nV)) ∧ G q = some (.lst (ps.map nV)) ∧
  n ≤ 10 ∧ (∀ x ∈ ns, x < L.length ∧ (lk L x).2 < n) ∧ ps.Nodup ∧ (∀ x ∈ ps, x < n) ∧ ns.length < 64 ∧ (ns.map fun i => (lk L i).2).Nodup ∧ (∀ x ∈ ps, x ∉ ns.map fun i => (lk L i).2) ∧
  (∀ F : List Nat, (∀ x ∈ ps, x ∈ F) → (∀ x ∈ ns, (lk L x).1 ∈ F → (lk L x).2 ∈ F) → ∀ x ∈ ns, (lk L x).2 ∈ F) ∧ ∀ (G' H' : Hp), Xt Pu G H G' H' → Q (.bl true) H'
abbrev N_is_wood : List Str := ["net", "lot", "places", "ends", "heard", "link", "place"]
theorem sc_is_wood : FnScope N_is_wood ["net", "lot", "places"] (defScope (topS 27)) := ⟨rfl, rfl, rfl, by decide +kernel, rfl, by decide +kernel, by decide +kernel⟩
theorem ok_is_wood (T : Txt K mg) : Keeps P w K mg base 2 "is_wood" ["net", "lot", "places"] (sp_is_wood K) := by
  have G_reached := ok_reached (P := P) (w := w) (base := base) T
  refine T.d_is_wood.keeps sc_is_wood (fun _ _ _ _ _ _ us hl => match us, hl with | [_, _, _], _ => rfl) (fun vs H Q E h => ?_) (fun cdv A outer s H vs Q E hr h => ?_)
  · obtain ⟨n, r, L, v, p, q, ns, ps, G, rfl, gh, N, hp, hq, hn, hns, hnd, hps, hnl, hnd2, hdj, hcl, k⟩ := h; rfl
  · have hu := hu_of hr
    obtain ⟨n, r, L, v, p, q, ns, ps, G, rfl, gh, N, hp, hq, hn, hns, hnd, hps, hnl, hnd2, hdj, hcl, k⟩ := h
    refine ⟨_, (pss_cons (ps_set (i := 3) sc_is_wood.nd rfl (Or.inr rfl) (pe_lc (own := [("link", 5)]) (g := gName 5) (tt := tYes) (by rfl) sc_is_wood.nd (pi_tup (pv 1)) (blkOk_by (N := N_is_wood) (sc := defScope (topS 27)) (by decide +kernel)) (fun _ _ _ _ _ => pg_name (i := 5) sc_is_wood.nd rfl (Or.inl rfl)) (fun _ _ _ _ _ => pts_nil) (fun _ _ _ _ _ => (pe_ix (ix_tupK (K := K)) (pe_ix (ix_tupK (K := K)) (pe_fldK (K := K) (pv 0) rfl) (pv 5) (fun _ _ => rfl)) pe_int (fun _ _ => rfl)))))
      (pss_cons (ps_if (PW.pt (pw_or (pt_cmpR op_lt (RZ.pe_lenSetI (by rfl) T.b_len (by rfl) T.b_set (pv 3)) (pe_callB call_len_seq (by rfl) T.b_len (by decide +kernel) (pa_cons (pv 3) pa_nil)) (nomark _)) (pw_or1 (pt_val (pe_callB (cr_any rfl) (by rfl) T.b_any (by decide +kernel) (pa_cons (pe_lc (own := [("place", 6)]) (g := gName 6) (tt := tYes) (by rfl) sc_is_wood.nd (pi_list (pv 2)) (blkOk_by (N := N_is_wood) (sc := defScope (topS 27)) (by decide +kernel)) (fun _ _ _ _ _ => pg_name (i := 6) sc_is_wood.nd rfl (Or.inl rfl)) (fun _ _ _ _ _ => pts_nil) (fun _ _ _ _ _ => (pe_cmpR (op_in_seqK (K := K)) (pv 6) (pv 3) (by rfl)))) pa_nil))))))
      (pss_one (ps_ret pe_bl))
      pss_nil)
      (pss_cons (ps_set (i := 4) sc_is_wood.nd rfl (Or.inr rfl) (pcall G_reached (hr.mono (by decide)) rfl (pa_cons (pv 0) (pa_cons (pv 1) (pa_cons (pv 2) pa_nil)))))
      (pss_one (ps_ret (pe_callB (cr_all rfl) (by rfl) T.b_all (by decide +kernel) (pa_cons (pe_lc (own := [("place", 6)]) (g := gName 6) (tt := tYes) (by rfl) sc_is_wood.nd (pi_list (pv 3)) (blkOk_by (N := N_is_wood) (sc := defScope (topS 27)) (by decide +kernel)) (fun _ _ _ _ _ => pg_name (i := 6) sc_is_wood.nd rfl (Or.inl rfl)) (fun _ _ _ _ _ => pts_nil) (fun _ _ _ _ _ => (pe_cmpR (op_in_seqK (K := K)) (pv 6) (pv 4) (by rfl)))) pa_nil))))))), ?_⟩
    have pl : ps.length ≤ 10 := by
      have := hnd.length_le_of_subset (l₂ := List.range n) fun x hx => List.mem_range.mpr (hps x hx)
      rw [List.length_range] at this; omega
    refine ⟨_, rfl, p, rfl, ⟨_, SqT.of (gh _ _ hp)⟩, fun E hE => lcTm ns (fun i => (lk L i).2) rN rN gh hp (nat_all2 ns) hE (Nat.lt_trans hnl (by decide)) ?_ ?_⟩
    · rintro j x _ G2 H2 hx rfl x2 Q2 k2
      refine rd_link1 T N (x2.gg.trans x2.gh) rfl rfl (hns x (List.mem_of_getElem? hx)).1 ?_
      exact k2 _ _ _ (Xt.refl x2.gh) rfl
    · rintro G2 H2 acc x2 hE2 gE2 aE
      have x3 := x2.freeze hE gE2 hE2
      rw [all2_nat aE] at hE2 x3
      have hE3 := hE2
      rw [map_nV] at hE3
      refine ⟨_, rfl, E, _, rfl, SqL.of hE3, nodup_cast hnd2, ?_, ?_⟩
      · rw [List.length_map, List.length_map]; omega
      refine ⟨_, rfl, E, _, rfl, .inl (SqL.of hE2), _, _, rfl, rfl, ?_⟩
      refine ⟨_, rfl, ?_⟩
      rw [show decide (((((ns.map fun i => (lk L i).2).map fun n : Nat => (n : Int)).length : Nat) : Int) < ((((ns.map fun i => (lk L i).2).map nV).length : Nat) : Int)) = false by simp]
      refine iteF ?_
      refine ⟨_, rfl, q, rfl, ⟨_, SqL.of (x3.old hq)⟩, fun E2 hEE => lcLm ps (fun _ => false) rN rB x3.gh (x3.gg _ _ hq) (nat_all2 ps) hEE (Nat.lt_of_le_of_lt pl (by decide)) ?_ ?_⟩
      · rintro j x _ G4 H4 hx rfl x4 Q2 k2
        refine ⟨_, rfl, _, rfl, E, _, rfl, .inl (SqL.of (x4.old upd_same)), rfl, flat_nat _, ?_⟩
        rw [show (if false = true then !inV (nV x) ((ns.map fun i => (lk L i).2).map nV) else inV (nV x) ((ns.map fun i => (lk L i).2).map nV)) = inV (nV x) ((ns.map fun i => (lk L i).2).map nV) from rfl, inV_nat, decide_eq_false (hdj x (List.mem_of_getElem? hx))]
        exact k2 _ _ _ (Xt.refl x4.gh) rfl
      · rintro G4 H4 acc2 x4 hE4 gE4 aE2
        rw [all2_bool aE2] at hE4
        have x5 := x3.trans x4
        refine ⟨E2, _, rfl, SqL.of hE4, _, rfl, ?_⟩
        rw [any_false]
        refine iteF ?_
        refine ⟨_, rfl, _, rfl, _, rfl, n, r, L, v, p, q, ns, ps, G4, rfl, x5.gh, N.mono x5.gg, x5.gg _ _ hp, x5.gg _ _ hq, hn, hns, hnd, hps, hnl, ?_⟩
        rintro G6 H6 f F x6 hf hF1 hF2
        have x7 := x5.trans x6
        refine ⟨_, rfl, E, rfl, ⟨_, SqL.of (x6.old (x4.gg _ _ upd_same))⟩, fun E3 hE3' => lcLm (ns.map fun i => (lk L i).2) (fun _ => true) rN rB x7.gh (x6.gg _ _ (x4.gg _ _ upd_same)) (nat_all2 _) hE3' ?_ ?_ ?_⟩
        · rw [List.length_map]; exact Nat.lt_trans hnl (by decide)
        · rintro j x _ G8 H8 hx rfl x8 Q2 k2
          have hx2 : x ∈ F := by
            obtain ⟨i, hi, rfl⟩ := List.mem_map.mp (List.mem_of_getElem? hx)
            exact hcl F hF1 hF2 i hi
          have e : F = F := rfl
          refine ⟨_, rfl, _, rfl, f, _, rfl, .inl (SqL.of (x8.old hf)), rfl, flat_nat F, ?_⟩
          rw [show (if false = true then !inV (nV x) (F.map nV) else inV (nV x) (F.map nV)) = inV (nV x) (F.map nV) from rfl, inV_nat, decide_eq_true hx2]
          exact k2 _ _ _ (Xt.refl x8.gh) rfl
        · rintro G8 H8 acc3 x8 hE8 gE8 aE3
          rw [all2_bool aE3] at hE8
          refine ⟨E3, _, rfl, SqL.of hE8, ?_⟩
          rw [all_true]
          exact k _ _ (x7.trans x8)
/-- what a tree of ours is -/
structure TreeOk (n r : Nat) (L : List Lk) (t : List Nat) : Prop where
  isT : IsT n r L t
  asc : t.Pairwise (· < ·)
  lt : ∀ x ∈ t, x < L.length
theorem TreeOk.len {n r : Nat} {L : List Lk} {t : List Nat} (h : TreeOk n r L t) : t.length + 1 = n := by
  obtain ⟨d, T⟩ := h.isT
  have := T.len
  rwa [List.length_map] at this
def sp_is_grown (K : PySem.W.Frag) : L2.Sp := fun vs H Q _ => ∃ (n r : Nat) (L : List Lk) (v : V) (p : Addr) (ns : List Nat) (G : Hp), vs = [v, .ref p] ∧ Same G H ∧ NetO K n r L v G ∧ G p = some (.tup (ns.map nV)) ∧
  n ≤ 10 ∧ r < n ∧ TreeOk n r L ns ∧ ∀ (G' H' : Hp), Xt Pu G H G' H' → Q (.bl true) H'
abbrev N_is_grown : List Str := ["net", "thing"]
theorem sc_is_grown : FnScope N_is_grown ["net", "thing"] (defScope (topS 28)) := ⟨rfl, rfl, rfl, by decide +kernel, rfl, by decide +kernel, by decide +kernel⟩
theorem ok_is_grown (T : Txt K mg) : Keeps P w K mg base 5 "is_grown" ["net", "thing"] (sp_is_grown K) := by
  have G_check_net := ok_check_net (P := P) (w := w) (base := base) T
  have G_is_lot_of := ok_is_lot_of (P := P) (w := w) (base := base) T
  have G_is_wood := ok_is_wood (P := P) (w := w) (base := base) T
  refine T.d_is_grown.keeps sc_is_grown (fun _ _ _ _ _ _ us hl => match us, hl with | [_, _], _ => rfl) (fun vs H Q E h => ?_) (fun cdv A outer s H vs Q E hr h => ?_)
  · obtain ⟨n, r, L, v, p, ns, G, rfl, gh, N, hp, hn, hr0, ht, k⟩ := h; rfl
  · have hu := hu_of hr
    obtain ⟨n, r, L, v, p, ns, G, rfl, gh, N, hp, hn, hr0, ht, k⟩ := h
    refine ⟨_, (pss_cons (ps_expr (pcall G_check_net (hr.mono (by decide)) rfl (pa_cons (pv 0) pa_nil)))
      (pss_one (ps_ret (pe_and (pcall G_is_lot_of (hr.mono (by decide)) rfl (pa_cons (pv 0) (pa_cons (pv 1) pa_nil))) (pe_one (pcall G_is_wood (hr.mono (by decide)) rfl (pa_cons (pv 0) (pa_cons (pv 1) (pa_cons (pe_lst (pa_cons (pe_fld (pv 0) rfl) pa_nil)) pa_nil))))))))), ?_⟩
    obtain ⟨d, Td⟩ := ht.isT
    refine ⟨_, rfl, n, r, L, v, rfl, N.mono gh, ?_⟩
    refine ⟨_, rfl, _, rfl, n, r, L, v, p, ns, rfl, N.mono gh, gh _ _ hp, ht.asc, ht.lt, true, rfl, iteT ?_⟩
    refine ⟨_, rfl, _, rfl, _, rfl, ?_⟩
    have Nq := N
    obtain ⟨q, dx, lv, rfl, hq, hl⟩ := N
    refine ⟨q, _, _, _, _, rfl, gh _ _ hq, T.net.cl, T.net_root, rfl, by show 1 ≤ _; decide, fun l hl2 => ?_⟩
    have x1 := (Xt.refl (m := Pu) gh).new hl2 (.lst [nV r])
    refine ⟨n, r, L, _, p, l, ns, [r], _, rfl, x1.gh, Nq.mono x1.gg, x1.gg _ _ hp, upd_same, hn, ?_, (by simp), by simpa using hr0, ?_, ?_, ?_, ?_, fun G' H' x2 => k _ _ (x1.trans x2)⟩
    · intro x hx
      exact ⟨ht.lt x hx, (Td.snd _ (List.mem_map.mpr ⟨x, hx, rfl⟩)).1⟩
    · have := ht.len; omega
    · have := Td.nd
      rwa [List.map_map] at this
    · intro x hx hx2
      rw [List.mem_singleton.mp hx] at hx2
      obtain ⟨i, hi, e⟩ := List.mem_map.mp hx2
      exact (Td.snd _ (List.mem_map.mpr ⟨i, hi, rfl⟩)).2 e
    · intro F h1 h2 x hx
      have := closed_all (S := fun y => y ∈ F) ht.isT (h1 r (List.mem_singleton.mpr rfl)) h2
      exact this _ (Td.snd _ (List.mem_map.mpr ⟨x, hx, rfl⟩)).1
def sp_is_tree (K : PySem.W.Frag) : L2.Sp := sp_is_grown K
abbrev N_is_tree : List Str := ["net", "thing"]
theorem sc_is_tree : FnScope N_is_tree ["net", "thing"] (defScope (topS 29)) := ⟨rfl, rfl, rfl, by decide +kernel, rfl, by decide +kernel, by decide +kernel⟩
theorem ok_is_tree (T : Txt K mg) : Keeps P w K mg base 6 "is_tree" ["net", "thing"] (sp_is_tree K) := by
  have G_is_grown := ok_is_grown (P := P) (w := w) (base := base) T
  refine T.d_is_tree.keeps sc_is_tree (fun _ _ _ _ _ _ us hl => match us, hl with | [_, _], _ => rfl) (fun vs H Q E h => ?_) (fun cdv A outer s H vs Q E hr h => ?_)
  · obtain ⟨n, r, L, v, p, ns, G, rfl, gh, N, hp, hn, hr0, ht, k⟩ := h; rfl
  · have hu := hu_of hr
    obtain ⟨n, r, L, v, p, ns, G, rfl, gh, N, hp, hn, hr0, ht, k⟩ := h
    refine ⟨_, (pss_one (ps_ret (pe_and (pcall G_is_grown (hr.mono (by decide)) rfl (pa_cons (pv 0) (pa_cons (pv 1) pa_nil))) (pe_one (pe_cmpR op_eq (pe_callB call_len_seq (by rfl) T.b_len (by decide +kernel) (pa_cons (pv 1) pa_nil)) (pe_op op_sub (pe_fld (pv 0) rfl) pe_int) (nomark _)))))), ?_⟩
    refine ⟨_, rfl, _, rfl, n, r, L, v, p, ns, G, rfl, gh, N, hp, hn, hr0, ht, fun G1 H1 x1 => ?_⟩
    refine ⟨true, rfl, iteT ?_⟩
    obtain ⟨q, dx, lv, rfl, hq, hl⟩ := N
    refine ⟨_, rfl, p, _, rfl, .inr (SqT.of (x1.old hp)), _, rfl, q, _, _, _, _, rfl, x1.old hq, T.net.cl, T.net_many, rfl, _, _, rfl, rfl, rfl, ?_⟩
    have e : decide (V.int (((ns.map nV).length : Nat) : Int) = V.int ((n : Int) - 1)) = true := decide_eq_true (by
      have := ht.len
      rw [List.length_map]
      congr 1; omega)
    rw [e]
    exact k _ _ x1
def sp_check_tree (K : PySem.W.Frag) : L2.Sp := fun vs H Q _ => ∃ (n r : Nat) (L : List Lk) (v : V) (p : Addr) (ns : List Nat) (G : Hp), vs = [v, .ref p] ∧ Same G H ∧ NetO K n r L v G ∧ G p = some (.tup (ns.map nV)) ∧
  n ≤ 10 ∧ r < n ∧ TreeOk n r L ns ∧ ∀ (G' H' : Hp), Xt Pu G H G' H' → Q .non H'
abbrev N_check_tree : List Str := ["net", "tree"]
theorem sc_check_tree : FnScope N_check_tree ["net", "tree"] (defScope (topS 33)) := ⟨rfl, rfl, rfl, by decide +kernel, rfl, by decide +kernel, by decide +kernel⟩
theorem ok_check_tree (T : Txt K mg) : Keeps P w K mg base 7 "check_tree" ["net", "tree"] (sp_check_tree K) := by
  have G_check_net := ok_check_net (P := P) (w := w) (base := base) T
  have G_is_tree := ok_is_tree (P := P) (w := w) (base := base) T
  refine T.d_check_tree.keeps sc_check_tree (fun _ _ _ _ _ _ us hl => match us, hl with | [_, _], _ => rfl) (fun vs H Q E h => ?_) (fun cdv A outer s H vs Q E hr h => ?_)
  · obtain ⟨n, r, L, v, p, ns, G, rfl, gh, N, hp, hn, hr0, ht, k⟩ := h; rfl
  · have hu := hu_of hr
    obtain ⟨n, r, L, v, p, ns, G, rfl, gh, N, hp, hn, hr0, ht, k⟩ := h
    refine ⟨_, (pss_cons (ps_expr (pcall G_check_net (hr.mono (by decide)) rfl (pa_cons (pv 0) pa_nil)))
      (pss_one (ps_if (pt_not (pt_val (pcall G_is_tree (hr.mono (by decide)) rfl (pa_cons (pv 0) (pa_cons (pv 1) pa_nil)))))
      (pss_one ps_never)
      pss_nil))), ?_⟩
    refine ⟨_, rfl, n, r, L, v, rfl, N.mono gh, ?_⟩
    refine ⟨_, rfl, _, rfl, n, r, L, v, p, ns, G, rfl, gh, N, hp, hn, hr0, ht, fun G1 H1 x1 => ?_⟩
    exact ⟨true, rfl, iteF (k _ _ x1)⟩
end
end Sp
end

section
set_option Elab.async false
set_option linter.all false
set_option maxRecDepth 100000
set_option maxHeartbeats 4000000
/-! Sparetrees: packings, ways. -/
namespace Sp
open PySem PySem.Spec PyProof.Rows L2
section
variable {P : Program} {w : World} {K : PySem.W.Frag} {mg : Str → Option Value} {base : Heap}
def sp_are_apart : L2.Sp := fun vs H Q _ => ∃ (p : Addr) (t : List (List Nat)) (G : Hp), vs = [.ref p] ∧ Same G H ∧ rT (rT rN) t (.ref p) G ∧ t.flatten.Nodup ∧ t.flatten.length ≤ 1000 ∧ ∀ (G' H' : Hp), Xt Pu G H G' H' → Q (.bl true) H'
abbrev N_are_apart : List Str := ["lots", "items", "lot"]
theorem sc_are_apart : FnScope N_are_apart ["lots"] (defScope (topS 30)) := ⟨rfl, rfl, rfl, by decide +kernel, rfl, by decide +kernel, by decide +kernel⟩
theorem ok_are_apart (T : Txt K mg) : Keeps P w K mg base 1 "are_apart" ["lots"] (sp_are_apart) := by
  refine T.d_are_apart.keeps sc_are_apart (fun _ _ _ _ _ _ us hl => match us, hl with | [_], _ => rfl) (fun vs H Q E h => ?_) (fun cdv A outer s H vs Q E hr h => ?_)
  · obtain ⟨p, t, G, rfl, gh, hp, hnd, hlen, k⟩ := h; rfl
  · have hu := hu_of hr
    obtain ⟨p, t, G, rfl, gh, hp, hnd, hlen, k⟩ := h
    refine ⟨_, (pss_cons (ps_set (i := 1) sc_are_apart.nd rfl (Or.inl rfl) (pe_lst pa_nil))
      (pss_cons (ps_for PassesOwn.never rfl (pi_tup (pv 0)) (pg_name (i := 2) sc_are_apart.nd rfl (Or.inl rfl))
      (pss_one (ps_expr (pe_bm PySem.F.plainAttrs_list PySem.F.slot_list_extend PySem.F.type_list_extend mt_extendT (pv 1) (pa_cons (pv 2) pa_nil)))))
      (pss_one (ps_ret (pe_cmpR op_eq (RZ.pe_lenSetI (by rfl) T.b_len (by rfl) T.b_set (pv 1)) (pe_callB call_len_seq (by rfl) T.b_len (by decide +kernel) (pa_cons (pv 1) pa_nil)) (nomark _)))))), ?_⟩
    obtain ⟨_, vs, e, hp, hvs⟩ := hp
    cases e
    refine ⟨by show 0 ≤ _; decide, fun ip hip => ?_⟩
    refine ⟨_, rfl, p, rfl, ⟨_, SqT.of (by rw [upd_ne (ne_of_none (gh _ _ hp) hip)]; exact gh _ _ hp)⟩, for_tup (xs := vs) (fun i σ H1 => ∃ G1 o, σ = [some (.ref p), some (.ref ip), o] ∧ Xt Pu G H G1 H1 ∧ G1 ip = none ∧ H1 ip = some (.lst ((t.take i).flatten.map nV))) ?_ ?_ ?_ ?_⟩
    · exact ⟨G, _, rfl, (Xt.refl gh).newM hip _, (Xt.refl (m := Pu) gh).gnone hip, upd_same⟩
    · rintro i σ H1 _ ⟨G1, o, rfl, x1, _⟩
      exact SqT.of (x1.old hp)
    · rintro i x σ H1 hx ⟨G1, o, rfl, x1, gi, hi⟩
      obtain ⟨ns, hns, q, es, rfl, hq, hes⟩ := All2.getV hvs hx
      have step : (t.take (i + 1)).flatten = (t.take i).flatten ++ ns := by
        rw [List.take_add_one, hns]; simp
      rw [all2_nat hes] at hq
      refine ⟨_, rfl, .inl ⟨rfl, _, SqL.of hi⟩, _, rfl, ip, q, _, _, rfl, rfl, hi, SqT.of (x1.old hq), ?_, ?_⟩
      · rw [List.length_map, List.length_map, ← List.length_append, ← step]
        have h1 : (t.take (i + 1)).flatten.length ≤ t.flatten.length := by
          conv => rhs; rw [← List.take_append_drop (i + 1) t, List.flatten_append, List.length_append]
          omega
        have : (1000 : Nat) ≤ sizeLine := by decide
        omega
      · exact ⟨G1, _, rfl, x1.mut (.inl hip) gi _, gi, by rw [upd_same, step, List.map_append]⟩
    · rintro σ H1 ⟨G1, o, rfl, x1, gi, hi⟩
      rw [hvs.len, List.take_length] at hi
      have hi2 := hi
      rw [map_nV] at hi2
      refine ⟨_, rfl, ip, _, rfl, SqL.of hi2, nodup_cast hnd, by rw [List.length_map]; omega, _, rfl, ip, _, rfl, .inl (SqL.of hi), rfl, ?_⟩
      rw [List.length_map, List.length_map]
      show Q (.bl (decide (nV t.flatten.length = nV t.flatten.length))) H1
      rw [decide_eq_true rfl]
      exact k _ _ x1
def sp_is_packing (K : PySem.W.Frag) : L2.Sp := fun vs H Q _ => ∃ (n r : Nat) (L : List Lk) (v : V) (p : Addr) (t : List (List Nat)) (G : Hp), vs = [v, .ref p] ∧ Same G H ∧ NetO K n r L v G ∧ rT (rT rN) t (.ref p) G ∧ n ≤ 10 ∧ r < n ∧ t.length ≤ 12 ∧
  (∀ x ∈ t, TreeOk n r L x) ∧ t.flatten.Nodup ∧ t.flatten.length ≤ 1000 ∧ ∀ (G' H' : Hp), Xt Pu G H G' H' → Q (.bl true) H'
abbrev N_is_packing : List Str := ["net", "thing", "tree"]
theorem sc_is_packing : FnScope N_is_packing ["net", "thing"] (defScope (topS 31)) := ⟨rfl, rfl, rfl, by decide +kernel, rfl, by decide +kernel, by decide +kernel⟩
theorem ok_is_packing (T : Txt K mg) : Keeps P w K mg base 7 "is_packing" ["net", "thing"] (sp_is_packing K) := by
  have G_check_net := ok_check_net (P := P) (w := w) (base := base) T
  have G_is_tree := ok_is_tree (P := P) (w := w) (base := base) T
  have G_are_apart := ok_are_apart (P := P) (w := w) (base := base) T
  refine T.d_is_packing.keeps sc_is_packing (fun _ _ _ _ _ _ us hl => match us, hl with | [_, _], _ => rfl) (fun vs H Q E h => ?_) (fun cdv A outer s H vs Q E hr h => ?_)
  · obtain ⟨n, r, L, v, p, t, G, rfl, gh, N, hp, hn, hr0, hm, ht, hnd, hlen, k⟩ := h; rfl
  · have hu := hu_of hr
    obtain ⟨n, r, L, v, p, t, G, rfl, gh, N, hp, hn, hr0, hm, ht, hnd, hlen, k⟩ := h
    refine ⟨_, (pss_cons (ps_expr (pcall G_check_net (hr.mono (by decide)) rfl (pa_cons (pv 0) pa_nil)))
      (pss_cons (ps_if (PW.pt (pw_or (pt_not (pt_val (pe_callB call_isi (by rfl) T.b_isinstance (by decide +kernel) (pa_cons (pv 1) (pa_cons (pe_bltn (v := .ty "tuple") rfl T.b_tuple (by decide +kernel) rfl) pa_nil))))) (pw_or1 (pt_not (pt_val (pe_callB (cr_all rfl) (by rfl) T.b_all (by decide +kernel) (pa_cons (pe_lc (own := [("tree", 2)]) (g := gName 2) (tt := tYes) (by rfl) sc_is_packing.nd (pi_tup (pv 1)) (blkOk_by (N := N_is_packing) (sc := defScope (topS 31)) (by decide +kernel)) (fun _ _ _ _ _ => pg_name (i := 2) sc_is_packing.nd rfl (Or.inl rfl)) (fun _ _ _ _ _ => pts_nil) (fun _ _ _ _ _ => (pcall G_is_tree (hr.mono (by decide)) rfl (pa_cons (pv 0) (pa_cons (pv 2) pa_nil))))) pa_nil)))))))
      (pss_one (ps_ret pe_bl))
      pss_nil)
      (pss_one (ps_ret (pcall G_are_apart (hr.mono (by decide)) rfl (pa_cons (pv 1) pa_nil)))))), ?_⟩
    have hp0 := hp
    obtain ⟨_, vs, e, hp, hvs⟩ := hp
    cases e
    refine ⟨_, rfl, n, r, L, v, rfl, N.mono gh, ?_⟩
    refine ⟨_, rfl, _, _, _, _, true, rfl, .ty _, .base (.tup (gh _ _ hp)), kit_ty (by decide +kernel), _, rfl, iteF ?_⟩
    refine ⟨_, rfl, p, rfl, ⟨_, SqT.of (gh _ _ hp)⟩, fun D hD => lcTm t (fun _ => true) (rT rN) rB gh hp hvs hD (Nat.lt_of_le_of_lt hm (by decide)) ?_ ?_⟩
    · rintro j x u G1 H1 hx hu x1 Q2 k2
      obtain ⟨q, es, rfl, hq, hes⟩ := hu
      rw [all2_nat hes] at hq
      exact ⟨_, rfl, _, rfl, n, r, L, v, q, x, G1, rfl, x1.gh, N.mono x1.gg, hq, hn, hr0, ht x (List.mem_of_getElem? hx), fun G2 H2 x2 => k2 _ _ _ x2 rfl⟩
    · rintro G1 H1 acc x1 hD1 gD ha
      rw [all2_bool ha] at hD1
      refine ⟨D, _, rfl, SqL.of hD1, ?_⟩
      rw [all_true]
      refine ⟨true, rfl, iteF ?_⟩
      exact ⟨_, rfl, p, t, G1, rfl, x1.gh, Mn.mono x1.gg hp0, hnd, hlen, fun G2 H2 x2 => k _ _ (x1.trans x2)⟩
theorem fm_filter {α : Type} (p : α → Bool) (xs : List α) : xs.filterMap (fun x => if p x = true then some x else none) = xs.filter p := by
  induction xs with
  | nil => rfl
  | cons x xs ih =>
    rw [List.filterMap_cons, List.filter_cons, ih]
    cases h : p x <;> simp [h]
def sp_links_to (K : PySem.W.Frag) : L2.Sp := fun vs H Q _ => ∃ (n r : Nat) (L : List Lk) (v : V) (p : Addr) (ns : List Nat) (pl : Nat) (G : Hp), vs = [v, .ref p, nV pl] ∧ Same G H ∧ NetO K n r L v G ∧ G p = some (.tup (ns.map nV)) ∧
  n ≤ 10 ∧ pl < n ∧ TreeOk n r L ns ∧ ∀ (G' H' : Hp) (f : Addr), Xt Pu G H G' H' → G' f = some (.tup ((way n r L ns pl).map nV)) → Q (.ref f) H'
def LI (n r : Nat) (L : List Lk) (v : V) (p : Addr) (ns : List Nat) (p0 : Nat) (G H : Hp) (m : Nat) (σ : L2.St) (H1 : Hp) : Prop := ∃ (G1 : Hp) (pl : Nat) (fp : Addr) (acc : List Nat) (o : Option V), σ = [some v, some (.ref p), some (nV pl), some (.ref fp), o, none] ∧
  Xt Pu G H G1 H1 ∧ G1 fp = some (.tup (acc.map nV)) ∧ pl < n ∧ way n r L ns pl ++ acc = way n r L ns p0 ∧ m = (way n r L ns pl).length
abbrev N_links_to : List Str := ["net", "tree", "place", "found", "link", "one"]
theorem sc_links_to : FnScope N_links_to ["net", "tree", "place"] (defScope (topS 34)) := ⟨rfl, rfl, rfl, by decide +kernel, rfl, by decide +kernel, by decide +kernel⟩
theorem ok_links_to (T : Txt K mg) : Keeps P w K mg base 1 "links_to" ["net", "tree", "place"] (sp_links_to K) := by
  refine T.d_links_to.keeps sc_links_to (fun _ _ _ _ _ _ us hl => match us, hl with | [_, _, _], _ => rfl) (fun vs H Q E h => ?_) (fun cdv A outer s H vs Q E hr h => ?_)
  · obtain ⟨n, r, L, v, p, ns, p0, G, rfl, gh, N, hp, hn, hpl, ht, k⟩ := h; rfl
  · have hu := hu_of hr
    obtain ⟨n, r, L, v, p, ns, p0, G, rfl, gh, N, hp, hn, hpl, ht, k⟩ := h
    refine ⟨_, (pss_cons (ps_set (i := 3) sc_links_to.nd rfl (Or.inl rfl) (pe_tup pa_nil))
      (pss_cons (ps_while PassesOwn.never (pt_cmpR op_ne (pv 2) (pe_fld (pv 0) rfl) (nomark _))
      (pss_cons (ps_set (i := 4) sc_links_to.nd rfl (Or.inl rfl) (pe_ix ix_list (pe_lc (own := [("one", 5)]) (g := gName 5) (by rfl) sc_links_to.nd (pi_tup (pv 1)) (blkOk_by (N := N_links_to) (sc := defScope (topS 34)) (by decide +kernel)) (fun _ _ _ _ _ => pg_name (i := 5) sc_links_to.nd rfl (Or.inl rfl)) (fun _ _ _ _ _ => (pts_one (pt_cmpR op_eq (pe_ix (ix_tupK (K := K)) (pe_ix (ix_tupK (K := K)) (pe_fldK (K := K) (pv 0) rfl) (pv 5) (fun _ _ => rfl)) pe_int (fun _ _ => rfl)) (pv 2) (nomark _)))) (fun _ _ _ _ _ => (pv 5))) pe_int (fun _ _ => rfl)))
        (pss_cons (ps_set (i := 3) sc_links_to.nd rfl (Or.inl rfl) (pe_op op_catA (pe_tup (pa_cons (pv 4) pa_nil)) (pv 3)))
        (pss_one (ps_set (i := 2) sc_links_to.nd rfl (Or.inr rfl) (pe_ix ix_tup (pe_ix ix_tup (pe_fld (pv 0) rfl) (pv 4) (fun _ _ => rfl)) pe_int (fun _ _ => rfl)))))))
      (pss_one (ps_ret (pv 3))))), ?_⟩
    refine ⟨by show 0 ≤ _; decide, fun f0 hf0 => ?_⟩
    refine ⟨LI n r L v p ns p0 G H, ⟨_, _, p0, f0, [], none, rfl, (Xt.refl gh).new hf0 _, upd_same, hpl, List.append_nil _, rfl⟩, ?_⟩
    rintro m σ H1 ⟨G1, pl, fp, acc, o, rfl, x1, hfp, hpl2, hw, rfl⟩
    have Nq := N
    obtain ⟨q, dx, lv, rfl, hq, hl⟩ := N
    refine ⟨_, rfl, _, rfl, q, _, _, _, _, rfl, x1.old hq, T.net.cl, T.net_root, rfl, rfl, _, rfl, ?_⟩
    by_cases e : pl = r
    · subst e
      have e2 : (!decide (nV pl = nV pl)) = false := by rw [nV_dec]; simp
      rw [e2]
      refine iteF ⟨_, rfl, ?_⟩
      rw [way_root, List.nil_append] at hw
      exact k _ _ fp x1 (by rw [hfp, hw])
    · have e2 : (!decide (nV pl = nV r)) = true := by rw [nV_dec]; simpa using e
      rw [e2]
      have ws := way_step ht.isT hpl2 e
      refine iteT ⟨fun σ' H' => ∃ m', m' < (way n r L ns pl).length ∧ LI n r L _ p ns p0 G H m' σ' H', fun _ _ z => z, ?_⟩
      refine ⟨_, rfl, p, rfl, ⟨_, SqT.of (x1.old hp)⟩, fun D hD => lcT ns (fun i => if ((lk L i).2 == pl) = true then some i else none) rN rN x1.gh (x1.gg _ _ hp) (nat_all2 ns) hD ?_ ?_ ?_⟩
      · have := ht.len
        have : (1000 : Nat) ≤ sizeLine := by decide
        have := List.length_filterMap_le (fun i => if ((lk L i).2 == pl) = true then some i else none) ns
        omega
      · rintro j x _ G2 H2 hx rfl x2 Q1 Q2 k1 k2
        refine rd_link1 T (Nq.mono (x1.gg.trans x2.gg)) x2.gh rfl rfl (ht.lt x (List.mem_of_getElem? hx)) ?_
        refine ⟨_, rfl, rfl, _, rfl, ?_⟩
        have e3 : decide (nV (lk L x).2 = nV pl) = ((lk L x).2 == pl) := by rw [nV_dec]; rfl
        rw [e3]
        refine ite2 (fun c => ?_) (fun c => ?_)
        · exact ⟨_, rfl, k2 _ (if_pos c) _ _ _ (Xt.refl x2.gh) rfl⟩
        · exact k1 (if_neg c) _ _ (Xt.refl x2.gh)
      · rintro G2 H2 acc2 x2 hD2 gD2 a2
        rw [fm_filter] at a2
        obtain ⟨rest, hrest⟩ := ws.fil
        rw [show ns.filter (fun i => (lk L i).2 == pl) = up L ns pl :: rest from hrest] at a2
        rw [all2_nat a2] at hD2
        refine ⟨D, _, 0, _, rfl, rfl, SqL.of hD2, atI_0, ?_⟩
        refine ⟨_, rfl, by show 1 ≤ _; decide, fun u hu => ?_⟩
        have x3 := x2.new hu (.tup [nV (up L ns pl)])
        have x4 := x1.trans x3
        have hlen : (acc.map nV).length ≤ 100 := by
          rw [List.length_map]
          have h1 := way_lt ht.isT hpl
          rw [← hw, List.length_append] at h1
          omega
        have hf3 := x3.old hfp
        have fin : ∀ (b : Addr) (G5 H5 : Hp), Xt Pu G H G5 H5 → G5 b = some (.tup ((up L ns pl :: acc).map nV)) →
            tAsg (tOp (rIxT K) (tOp (rIxT K) (tFld K (tVar 0) "links") (tVar 4)) (tC (.int 0))) (gName 2) { nx := fun σ' H' => ∃ m', m' < (way n r L ns pl).length ∧ LI n r L (.ref q) p ns p0 G H m' σ' H', rt := Q } [some (.ref q), some (.ref p), some (nV pl), some (.ref b), some (nV (up L ns pl)), none] H5 := by
          intro b G5 H5 x5 hb
          refine rd_link0 T (Nq.mono x5.gg) x5.gh rfl rfl (ht.lt _ ws.mem) ?_
          refine ⟨_, ?_, G5, (lk L (up L ns pl)).1, b, up L ns pl :: acc, _, rfl, x5, hb, ws.lt, ?_, rfl⟩
          · rw [ws.eq, List.length_append]; simp
          · rw [← hw, ws.eq]; simp
        refine ⟨_, rfl, u, fp, _, _, rfl, rfl, SqT.of upd_same, SqT.of hf3, ?_, ?_, ?_, ?_⟩
        · have : (1000 : Nat) ≤ sizeLine := by decide
          show 1 + _ ≤ _
          omega
        · intro z; cases z
        · intro _ he
          have he2 : acc = [] := List.map_eq_nil_iff.mp he
          subst he2
          exact fin u _ _ x4 upd_same
        · intro _ _ b hb
          exact fin b _ _ (x4.new hb _) upd_same
end
end Sp
end

section
set_option Elab.async false
set_option linter.all false
set_option maxRecDepth 100000
set_option maxHeartbeats 4000000
/-! Sparetrees: depths, the two classes. -/
namespace Sp
open PySem PySem.Spec PyProof.Rows L2
section
variable {P : Program} {w : World} {K : PySem.W.Frag} {mg : Str → Option Value} {base : Heap}
abbrev dps (n r : Nat) (L : List Lk) (t : List Nat) : List Nat := (List.range n).map fun p => (way n r L t p).length
def sp_depths (K : PySem.W.Frag) : L2.Sp := fun vs H Q _ => ∃ (n r : Nat) (L : List Lk) (v : V) (p : Addr) (ns : List Nat) (G : Hp), vs = [v, .ref p] ∧ Same G H ∧ NetO K n r L v G ∧ G p = some (.tup (ns.map nV)) ∧
  n ≤ 10 ∧ r < n ∧ TreeOk n r L ns ∧ ∀ (G' H' : Hp) (f : Addr), Xt Pu G H G' H' → G' f = some (.tup ((dps n r L ns).map nV)) → Q (.ref f) H'
abbrev N_depths : List Str := ["net", "tree", "place"]
theorem sc_depths : FnScope N_depths ["net", "tree"] (defScope (topS 35)) := ⟨rfl, rfl, rfl, by decide +kernel, rfl, by decide +kernel, by decide +kernel⟩
theorem ok_depths (T : Txt K mg) : Keeps P w K mg base 8 "depths" ["net", "tree"] (sp_depths K) := by
  have G_check_tree := ok_check_tree (P := P) (w := w) (base := base) T
  have G_links_to := ok_links_to (P := P) (w := w) (base := base) T
  refine T.d_depths.keeps sc_depths (fun _ _ _ _ _ _ us hl => match us, hl with | [_, _], _ => rfl) (fun vs H Q E h => ?_) (fun cdv A outer s H vs Q E hr h => ?_)
  · obtain ⟨n, r, L, v, p, ns, G, rfl, gh, N, hp, hn, hr0, ht, k⟩ := h; rfl
  · have hu := hu_of hr
    obtain ⟨n, r, L, v, p, ns, G, rfl, gh, N, hp, hn, hr0, ht, k⟩ := h
    refine ⟨_, (pss_cons (ps_expr (pcall G_check_tree (hr.mono (by decide)) rfl (pa_cons (pv 0) (pa_cons (pv 1) pa_nil))))
      (pss_one (ps_ret (pe_callTy call_tuple_of (by rfl) T.b_tuple (by decide +kernel) (pa_cons (pe_lc (own := [("place", 2)]) (g := gName 2) (tt := tYes) (by rfl) sc_depths.nd (pi_range1 (by rfl) T.b_range (pa_cons (pe_fld (pv 0) rfl) pa_nil)) (blkOk_by (N := N_depths) (sc := defScope (topS 35)) (by decide +kernel)) (fun _ _ _ _ _ => pg_name (i := 2) sc_depths.nd rfl (Or.inl rfl)) (fun _ _ _ _ _ => pts_nil) (fun _ _ _ _ _ => (pe_callB (call_len_seqK (K := K)) (by rfl) T.b_len (by decide +kernel) (pa_cons (pcall G_links_to (hr.mono (by decide)) rfl (pa_cons (pv 0) (pa_cons (pv 1) (pa_cons (pv 2) pa_nil)))) pa_nil)))) pa_nil))))), ?_⟩
    refine ⟨_, rfl, _, rfl, n, r, L, v, p, ns, G, rfl, gh, N, hp, hn, hr0, ht, fun G1 H1 x1 => ?_⟩
    have Nq := N
    obtain ⟨q, dx, lv, rfl, hq, hl⟩ := N
    refine ⟨_, rfl, q, _, _, _, _, rfl, x1.old hq, T.net.cl, T.net_many, rfl, (n : Int), rfl, by omega, by omega, fun D hD => lcRm n (fun p => (way n r L ns p).length) rN x1.gh hD (Nat.lt_of_le_of_lt hn (by decide)) ?_ ?_⟩
    · rintro j x _ G2 H2 hx rfl x2 Q2 k2
      have hxn : x < n := List.mem_range.mp (List.mem_of_getElem? hx)
      refine ⟨_, rfl, _, rfl, _, rfl, n, r, L, _, p, ns, x, G2, rfl, x2.gh, Nq.mono (x1.gg.trans x2.gg), x2.gg _ _ (x1.gg _ _ hp), hn, hxn, ht, fun G3 H3 f x3 hf => ?_⟩
      refine ⟨f, _, rfl, .inr (SqT.of (x3.gh _ _ hf)), ?_⟩
      rw [List.length_map]
      exact k2 _ _ _ x3 rfl
    · rintro G2 H2 acc x2 hD2 gD2 ha
      rw [all2_nat ha] at hD2
      exact ⟨D, _, rfl, .inl ⟨SqL.of hD2, fun f hf => k _ _ f ((x1.trans x2).new hf _) upd_same⟩⟩
def sp_way_in (K : PySem.W.Frag) : L2.Sp := fun vs H Q _ => ∃ (n r : Nat) (L : List Lk) (v : V) (p : Addr) (ns : List Nat) (pl : Nat) (G : Hp), vs = [v, .ref p, nV pl] ∧ Same G H ∧ NetO K n r L v G ∧ G p = some (.tup (ns.map nV)) ∧
  n ≤ 10 ∧ r < n ∧ pl < n ∧ TreeOk n r L ns ∧ ∀ (G' H' : Hp) (f : Addr), Xt Pu G H G' H' → G' f = some (.tup ((way n r L ns pl).map nV)) → Q (.ref f) H'
abbrev N_way_in : List Str := ["net", "tree", "place"]
theorem sc_way_in : FnScope N_way_in ["net", "tree", "place"] (defScope (topS 36)) := ⟨rfl, rfl, rfl, by decide +kernel, rfl, by decide +kernel, by decide +kernel⟩
theorem ok_way_in (T : Txt K mg) : Keeps P w K mg base 8 "way_in" ["net", "tree", "place"] (sp_way_in K) := by
  have G_check_tree := ok_check_tree (P := P) (w := w) (base := base) T
  have G_links_to := ok_links_to (P := P) (w := w) (base := base) T
  have G_is_within := ok_is_within (P := P) (w := w) (base := base) T
  refine T.d_way_in.keeps sc_way_in (fun _ _ _ _ _ _ us hl => match us, hl with | [_, _, _], _ => rfl) (fun vs H Q E h => ?_) (fun cdv A outer s H vs Q E hr h => ?_)
  · obtain ⟨n, r, L, v, p, ns, pl, G, rfl, gh, N, hp, hn, hr0, hpl, ht, k⟩ := h; rfl
  · have hu := hu_of hr
    obtain ⟨n, r, L, v, p, ns, pl, G, rfl, gh, N, hp, hn, hr0, hpl, ht, k⟩ := h
    refine ⟨_, (pss_cons (ps_expr (pcall G_check_tree (hr.mono (by decide)) rfl (pa_cons (pv 0) (pa_cons (pv 1) pa_nil))))
      (pss_cons (ps_if (pt_not (pt_val (pcall G_is_within (hr.mono (by decide)) rfl (pa_cons (pv 2) (pa_cons pe_int (pa_cons (pe_op op_sub (pe_fld (pv 0) rfl) pe_int) pa_nil))))))
      (pss_one ps_never)
      pss_nil)
      (pss_one (ps_ret (pcall G_links_to (hr.mono (by decide)) rfl (pa_cons (pv 0) (pa_cons (pv 1) (pa_cons (pv 2) pa_nil)))))))), ?_⟩
    refine ⟨_, rfl, _, rfl, n, r, L, v, p, ns, G, rfl, gh, N, hp, hn, hr0, ht, fun G1 H1 x1 => ?_⟩
    have Nq := N
    obtain ⟨q, dx, lv, rfl, hq, hl⟩ := N
    refine ⟨_, rfl, _, rfl, q, _, _, _, _, rfl, x1.old hq, T.net.cl, T.net_many, rfl, _, _, rfl, rfl, (pl : Int), 0, (n : Int) - 1, rfl, ?_⟩
    rw [decide_eq_true (by omega)]
    refine ⟨true, rfl, iteF ?_⟩
    exact ⟨_, rfl, _, rfl, _, rfl, n, r, L, _, p, ns, pl, G1, rfl, x1.gh, Nq.mono x1.gg, x1.gg _ _ hp, hn, hpl, ht, fun G2 H2 f x2 hf => k _ _ f (x1.trans x2) hf⟩
def sp_NetI (K : PySem.W.Frag) : L2.Sp := fun vs H Q _ => ∃ (n r : Nat) (L : List Lk) (x dx : Addr) (lv : V) (G : Hp), vs = [.ref x, nV n, nV r, lv] ∧ Same G H ∧ H x = some (.ins (He.ga K "Net") dx []) ∧ G x = none ∧ rT (rP rN rN) L lv G ∧
  2 ≤ n ∧ n ≤ 10 ∧ r < n ∧ L.length ≤ 60 ∧ (∀ q ∈ L, q.1 < n ∧ q.2 < n ∧ q.1 ≠ q.2) ∧ ∀ (G' H' : Hp), Xt (fun b => b = x) G H G' H' → H' x = some (.ins (He.ga K "Net") dx [("many", nV n), ("root", nV r), ("links", lv)]) → Q .non H'
abbrev N_Net : List Str := ["self", "many", "root", "links", "number", "link"]
theorem sc_Net : FnScope N_Net ["self", "many", "root", "links"] (defScope (inClass (topS 21) 0)) := ⟨rfl, rfl, rfl, by decide +kernel, rfl, by decide +kernel, by decide +kernel⟩
theorem ok_Net (T : Txt K mg) : KeepsI P w K mg base 4 "Net" ["self", "many", "root", "links"] (sp_NetI K) := by
  have G_is_within := ok_is_within (P := P) (w := w) (base := base) T
  have G_is_link := ok_is_link (P := P) (w := w) (base := base) T
  refine T.net.keeps sc_Net (fun _ _ _ _ _ _ us hl => match us, hl with | [_, _, _, _], _ => rfl) (fun vs H Q E h => ?_) (fun cdv A outer s H vs Q E hr h => ?_)
  · obtain ⟨n, r, L, x, dx, lv, G, rfl, gh, hx, gx, hl, h2, hn, hr0, hlen, hL, k⟩ := h; rfl
  · have hu := hu_of hr
    obtain ⟨n, r, L, x, dx, lv, G, rfl, gh, hx, gx, hl, h2, hn, hr0, hlen, hL, k⟩ := h
    refine ⟨_, (pss_cons (ps_if (pt_not (pt_val (pcall G_is_within (hr.mono (by decide)) rfl (pa_cons (pv 1) (pa_cons (pgint T.c_LEAST_PLACES rfl) (pa_cons (pgint T.c_MOST_PLACES rfl) pa_nil))))))
      (pss_one ps_never)
      pss_nil)
      (pss_cons (ps_if (pt_not (pt_val (pcall G_is_within (hr.mono (by decide)) rfl (pa_cons (pv 2) (pa_cons pe_int (pa_cons (pe_op op_sub (pv 1) pe_int) pa_nil))))))
      (pss_one ps_never)
      pss_nil)
      (pss_cons (ps_if (PW.pt (pw_or (pt_not (pt_val (pe_callB call_isi (by rfl) T.b_isinstance (by decide +kernel) (pa_cons (pv 3) (pa_cons (pe_bltn (v := .ty "tuple") rfl T.b_tuple (by decide +kernel) rfl) pa_nil))))) (pw_or1 (pt_cmpR op_gt (pe_callB call_len_seq (by rfl) T.b_len (by decide +kernel) (pa_cons (pv 3) pa_nil)) (pgint T.c_MOST_LINKS rfl) (nomark _)))))
      (pss_one ps_never)
      pss_nil)
      (pss_cons (ps_for PassesOwn.never rfl (SpE.pi_enumT (by rfl) T.b_enumerate (pa_cons (pv 3) pa_nil)) (pg_tup (by rfl) (pgs_cons (pg_name (i := 4) sc_Net.nd rfl (Or.inl rfl)) (pgs_cons (pg_name (i := 5) sc_Net.nd rfl (Or.inl rfl)) pgs_nil)))
      (pss_one (ps_if (pt_not (pt_val (pcall G_is_link (hr.mono (by decide)) rfl (pa_cons (pv 1) (pa_cons (pv 5) pa_nil)))))
        (pss_one ps_never)
        pss_nil)))
      (pss_cons (ps_fld (pv 0) (pv 1) rfl)
      (pss_cons (ps_fld (pv 0) (pv 2) rfl)
      (pss_one (ps_fld (pv 0) (pv 3) rfl)))))))), ?_⟩
    obtain ⟨lp, ls, rfl, hlp, hls⟩ := hl
    refine ⟨_, rfl, (n : Int), 2, 10, rfl, ?_⟩
    rw [decide_eq_true (by omega)]
    refine ⟨true, rfl, iteF ?_⟩
    refine ⟨_, rfl, _, rfl, _, _, rfl, rfl, (r : Int), 0, (n : Int) - 1, rfl, ?_⟩
    rw [decide_eq_true (by omega)]
    refine ⟨true, rfl, iteF ?_⟩
    refine ⟨_, rfl, _, _, _, _, true, rfl, .ty _, .base (.tup (gh _ _ hlp)), kit_ty (by decide +kernel), _, rfl, iteF ?_⟩
    refine ⟨_, rfl, lp, _, rfl, .inr (SqT.of (gh _ _ hlp)), _, _, rfl, rfl, _, rfl, ?_⟩
    rw [hls.len, show decide ((60 : Int) < ((L.length : Nat) : Int)) = false by apply decide_eq_false; omega]
    refine iteF ?_
    have e0 : ∀ H1, Xt (fun b => b = x) G H G H1 → True := fun _ _ => trivial
    refine ⟨_, rfl, lp, _, rfl, SqT.of (gh _ _ hlp), for_it (SpE.walk_enumT (K := K) (a := lp) (xs := ls)) (fun i σ H1 => ∃ G1 o1 o2, σ = [some (.ref x), some (nV n), some (nV r), some (.ref lp), o1, o2] ∧ Xt Pu G H G1 H1) ⟨G, _, _, rfl, Xt.refl gh⟩ ?_ ?_ ?_⟩
    · rintro i σ H1 _ ⟨G1, o1, o2, rfl, x1⟩
      exact SqT.of (x1.old hlp)
    · rintro i y σ H1 H2 hi ⟨G1, o1, o2, rfl, x1⟩ ⟨Tp, a, b, rfl, hT, rfl, ha, hb⟩
      cases ha
      obtain ⟨q, hq, p, u, v, rfl, hp, rfl, rfl⟩ := All2.getV hls hb
      have x2 := x1.newM hT (.tup [.int (i : Nat), .ref p])
      refine ⟨Tp, _, rfl, SqT.of upd_same, rfl, ?_⟩
      refine ⟨_, _, rfl, _, _, rfl, rfl, ?_⟩
      have hv := hL q (List.mem_of_getElem? hq)
      refine ⟨_, rfl, _, rfl, n, q.1, q.2, .ref p, G1, rfl, x2.gh, ⟨p, _, _, rfl, x2.gg _ _ hp, rfl, rfl⟩, hv.1, hv.2.1, hv.2.2, fun G3 H3 x3 => ?_⟩
      exact ⟨true, rfl, iteF ⟨G3, _, _, rfl, x2.trans x3⟩⟩
    · rintro σ H1 ⟨G1, o1, o2, rfl, x1⟩
      have gx1 := x1.fr x (by rw [hx]; simp) gx
      have hx1 := x1.hh _ _ (fun z => z) hx
      have y1 : Xt (fun b => b = x) G H G1 H1 := x1.pu
      refine ⟨_, rfl, _, rfl, x, _, dx, _, rfl, hx1, T.net.cl, T.net_many, by show 0 < 1000; decide, ?_⟩
      refine ⟨_, rfl, _, rfl, x, _, dx, _, rfl, upd_same, T.net.cl, T.net_root, by show 1 < 1000; decide, ?_⟩
      refine ⟨_, rfl, _, rfl, x, _, dx, _, rfl, upd_same, T.net.cl, T.net_links, by show 2 < 1000; decide, ?_⟩
      refine k G1 _ (((y1.mut (.inr rfl) gx1 _).mut (.inr rfl) gx1 _).mut (.inr rfl) gx1 _) ?_
      rw [upd_same]; rfl
structure PlanOk (n r : Nat) (L : List Lk) (t : List (List Nat)) (k : Nat) : Prop where
  n2 : 2 ≤ n
  n10 : n ≤ 10
  rn : r < n
  L60 : L.length ≤ 60
  links : ∀ q ∈ L, q.1 < n ∧ q.2 < n ∧ q.1 ≠ q.2
  m1 : 1 ≤ t.length
  m12 : t.length ≤ 12
  tree : ∀ x ∈ t, TreeOk n r L x
  apart : t.flatten.Nodup
  k1 : 1 ≤ k
  k8 : k ≤ 8
  km : k ≤ t.length
theorem PlanOk.flat {n r : Nat} {L : List Lk} {t : List (List Nat)} {k : Nat} (h : PlanOk n r L t k) : t.flatten.length ≤ 60 := by
  have := h.apart.length_le_of_subset (l₂ := List.range L.length) fun x hx => by
    obtain ⟨y, hy, hxy⟩ := List.mem_flatten.mp hx
    exact List.mem_range.mpr ((h.tree y hy).lt x hxy)
  rw [List.length_range] at this
  exact Nat.le_trans this h.L60
def sp_PlanI (K : PySem.W.Frag) : L2.Sp := fun vs H Q _ => ∃ (n r : Nat) (L : List Lk) (t : List (List Nat)) (k' : Nat) (x dx tp : Addr) (nv : V) (G : Hp), vs = [.ref x, nv, .ref tp, nV k'] ∧ Same G H ∧ H x = some (.ins (He.ga K "Plan") dx []) ∧ G x = none ∧ NetO K n r L nv G ∧
  rT (rT rN) t (.ref tp) G ∧ PlanOk n r L t k' ∧ ∀ (G' H' : Hp) (dv : V), Xt (fun b => b = x) G H G' H' → H' x = some (.ins (He.ga K "Plan") dx [("of_net", nv), ("by_trees", .ref tp), ("of_size", nV k'), ("kept_depths", dv)]) → rL (rT rN) (t.map (dps n r L)) dv G' → Q .non H'
abbrev N_Plan : List Str := ["self", "net", "trees", "size", "tree"]
theorem sc_Plan : FnScope N_Plan ["self", "net", "trees", "size"] (defScope (inClass (topS 40) 0)) := ⟨rfl, rfl, rfl, by decide +kernel, rfl, by decide +kernel, by decide +kernel⟩
theorem ok_Plan (T : Txt K mg) : KeepsI P w K mg base 9 "Plan" ["self", "net", "trees", "size"] (sp_PlanI K) := by
  have G_is_within := ok_is_within (P := P) (w := w) (base := base) T
  have G_check_net := ok_check_net (P := P) (w := w) (base := base) T
  have G_is_packing := ok_is_packing (P := P) (w := w) (base := base) T
  have G_depths := ok_depths (P := P) (w := w) (base := base) T
  refine T.plan.keeps sc_Plan (fun _ _ _ _ _ _ us hl => match us, hl with | [_, _, _, _], _ => rfl) (fun vs H Q E h => ?_) (fun cdv A outer s H vs Q E hr h => ?_)
  · obtain ⟨n, r, L, t, k', x, dx, tp, nv, G, rfl, gh, hx, gx, N, ht, ok, k⟩ := h; rfl
  · have hu := hu_of hr
    obtain ⟨n, r, L, t, k', x, dx, tp, nv, G, rfl, gh, hx, gx, N, ht, ok, k⟩ := h
    refine ⟨_, (pss_cons (ps_expr (pcall G_check_net (hr.mono (by decide)) rfl (pa_cons (pv 1) pa_nil)))
      (pss_cons (ps_if (PW.pt (pw_or (pt_not (pt_val (pcall G_is_packing (hr.mono (by decide)) rfl (pa_cons (pv 1) (pa_cons (pv 2) pa_nil))))) (pw_or1 (pt_not (pt_chain op_le op_le pe_int (pe_callB call_len_seq (by rfl) T.b_len (by decide +kernel) (pa_cons (pv 2) pa_nil)) (pgint T.c_MOST_WORDS rfl))))))
      (pss_one ps_never)
      pss_nil)
      (pss_cons (ps_if (pt_not (pt_val (pcall G_is_within (hr.mono (by decide)) rfl (pa_cons (pv 3) (pa_cons pe_int (pa_cons (pe_callB (call_min2 rfl) (by rfl) T.b_min (by decide +kernel) (pa_cons (pgint T.c_MOST_SIZE rfl) (pa_cons (pe_callB call_len_seq (by rfl) T.b_len (by decide +kernel) (pa_cons (pv 2) pa_nil)) pa_nil))) pa_nil))))))
      (pss_one ps_never)
      pss_nil)
      (pss_cons (ps_fld (pv 0) (pv 1) rfl)
      (pss_cons (ps_fld (pv 0) (pv 2) rfl)
      (pss_cons (ps_fld (pv 0) (pv 3) rfl)
      (pss_one (ps_fld (pv 0) (pe_lc (own := [("tree", 4)]) (g := gName 4) (tt := tYes) (by rfl) sc_Plan.nd (pi_tup (pv 2)) (blkOk_by (N := N_Plan) (sc := defScope (inClass (topS 40) 0)) (by decide +kernel)) (fun _ _ _ _ _ => pg_name (i := 4) sc_Plan.nd rfl (Or.inl rfl)) (fun _ _ _ _ _ => pts_nil) (fun _ _ _ _ _ => (pcall G_depths (hr.mono (by decide)) rfl (pa_cons (pv 1) (pa_cons (pv 4) pa_nil))))) rfl)))))))), ?_⟩
    have ht0 := ht
    obtain ⟨_, ts, e, htp, hts⟩ := ht
    cases e
    refine ⟨_, rfl, n, r, L, nv, rfl, N.mono gh, ?_⟩
    refine ⟨_, rfl, _, rfl, n, r, L, nv, tp, t, G, rfl, gh, N, ht0, ok.n10, ok.rn, ok.m12, ok.tree, ok.apart, Nat.le_trans ok.flat (by decide), fun G1 H1 x1 => ?_⟩
    refine ⟨true, rfl, iteF ?_⟩
    refine ⟨_, rfl, tp, _, rfl, .inr (SqT.of (x1.old htp)), ?_⟩
    rw [hts.len]
    have := ok.m1; have := ok.m12
    refine ⟨_, _, rfl, rfl, _, rfl, ?_⟩
    rw [show decide ((1 : Int) ≤ ((t.length : Nat) : Int)) = true by apply decide_eq_true; omega]
    refine iteT ⟨_, _, rfl, rfl, _, rfl, ?_⟩
    rw [show decide (((t.length : Nat) : Int) ≤ 12) = true by apply decide_eq_true; omega]
    refine iteF ?_
    refine ⟨_, rfl, _, rfl, tp, _, rfl, .inr (SqT.of (x1.old htp)), ?_⟩
    rw [hts.len]
    refine ⟨8, (t.length : Int), rfl, (k' : Int), 1, (if (t.length : Int) < 8 then (t.length : Int) else 8), rfl, ?_⟩
    have := ok.k1; have := ok.k8; have := ok.km
    rw [show decide ((1 : Int) ≤ (k' : Int) ∧ (k' : Int) ≤ (if (t.length : Int) < 8 then (t.length : Int) else 8)) = true by apply decide_eq_true; constructor; omega; split <;> omega]
    refine ⟨true, rfl, iteF ?_⟩
    have gx1 := x1.fr x (by rw [hx]; simp) gx
    have hx1 := x1.hh _ _ (fun z => z) hx
    have y1 : Xt (fun b => b = x) G H G1 H1 := x1.pu
    refine ⟨_, rfl, _, rfl, x, _, dx, _, rfl, hx1, T.plan.cl, T.plan_net, by show 0 < 1000; decide, ?_⟩
    refine ⟨_, rfl, _, rfl, x, _, dx, _, rfl, upd_same, T.plan.cl, T.plan_trees, by show 1 < 1000; decide, ?_⟩
    refine ⟨_, rfl, _, rfl, x, _, dx, _, rfl, upd_same, T.plan.cl, T.plan_size, by show 2 < 1000; decide, ?_⟩
    have y2 := (((y1.mut (.inr rfl) gx1 (.ins (He.ga K "Plan") dx (putF "of_net" nv []))).mut (.inr rfl) gx1 (.ins (He.ga K "Plan") dx (putF "by_trees" (.ref tp) (putF "of_net" nv [])))).mut (.inr rfl) gx1 (.ins (He.ga K "Plan") dx (putF "of_size" (nV k') (putF "by_trees" (.ref tp) (putF "of_net" nv [])))))
    refine ⟨_, rfl, tp, rfl, ⟨_, SqT.of (y2.old htp)⟩, fun D hD => lcTm t (dps n r L) (rT rN) (rT rN) y2.gh (y2.gg _ _ htp) (All2.mono y2.gg hts) hD (Nat.lt_of_le_of_lt ok.m12 (by decide)) ?_ ?_⟩
    · rintro j y u G2 H2 hy hu x2 Q2 k2
      obtain ⟨q, es, rfl, hq, hes⟩ := hu
      rw [all2_nat hes] at hq
      exact ⟨_, rfl, _, rfl, n, r, L, nv, q, y, G2, rfl, x2.gh, N.mono (y2.gg.trans x2.gg), hq, ok.n10, ok.rn, ok.tree y (List.mem_of_getElem? hy), fun G3 H3 f x3 hf => k2 _ _ _ x3 (nat_rT hf)⟩
    · rintro G2 H2 acc x2 hD2 gD2 ha
      have x3 : Xt Pu _ _ _ _ := x2.freeze hD gD2 hD2
      have y3 := y2.trans x3.pu
      have gx3 := y3.fr x (by rw [hx]; simp) gx
      have hx3 := x3.hh _ _ (fun z => z) upd_same
      refine ⟨_, rfl, x, _, dx, _, rfl, hx3, T.plan.cl, T.plan_depths, by show 3 < 1000; decide, ?_⟩
      refine k _ _ (.ref D) (y3.mut (.inr rfl) gx3 _) (by rw [upd_same]; rfl) ⟨D, _, rfl, upd_same, ha.mono (same_upd gD2)⟩
end
end Sp
end

section
set_option Elab.async false
set_option linter.all false
set_option maxRecDepth 100000
set_option maxHeartbeats 4000000
/-! Sparetrees: what is stopped. -/
namespace Sp
open PySem PySem.Spec PyProof.Rows L2
abbrev PlanP (K : PySem.W.Frag) (n r : Nat) (L : List Lk) (t : List (List Nat)) (k : Nat) (v : V) (G : Hp) : Prop := PlanO K n r L t k (t.map (dps n r L)) v G
theorem cutN_le (n r : Nat) (L : List Lk) (t : List (List Nat)) (p : Nat) (lo : List Nat) : cutN n r L t p lo ≤ t.length := by
  unfold cutN cut
  refine Nat.le_trans (List.length_filter_le _ _) ?_
  rw [List.length_map]; exact Nat.le_refl _
theorem any_map {α : Type} (f : α → Bool) (xs : List α) : ((xs.map f).any id) = xs.any f := by
  rw [List.any_map]; rfl
theorem all_map {α : Type} (f : α → Bool) (xs : List α) : ((xs.map f).all id) = xs.all f := by
  rw [List.all_map]; rfl
section
variable {P : Program} {w : World} {K : PySem.W.Frag} {mg : Str → Option Value} {base : Heap}
def sp_cut_trees (K : PySem.W.Frag) : L2.Sp := fun vs H Q _ => ∃ (n r : Nat) (L : List Lk) (t : List (List Nat)) (k p : Nat) (v : V) (q : Addr) (lo : List Nat) (G : Hp), vs = [v, nV p, .ref q] ∧ Same G H ∧ PlanP K n r L t k v G ∧ PlanOk n r L t k ∧
  G q = some (.tup (lo.map nV)) ∧ p < n ∧ ∀ (G' H' : Hp), Xt Pu G H G' H' → Q (nV (cutN n r L t p lo)) H'
abbrev N_cut_trees : List Str := ["plan", "place", "lost", "ways", "tree", "way", "link"]
theorem sc_cut_trees : FnScope N_cut_trees ["plan", "place", "lost"] (defScope (topS 47)) := ⟨rfl, rfl, rfl, by decide +kernel, rfl, by decide +kernel, by decide +kernel⟩
theorem ok_cut_trees (T : Txt K mg) : Keeps P w K mg base 9 "cut_trees" ["plan", "place", "lost"] (sp_cut_trees K) := by
  have G_way_in := ok_way_in (P := P) (w := w) (base := base) T
  refine T.d_cut_trees.keeps sc_cut_trees (fun _ _ _ _ _ _ us hl => match us, hl with | [_, _, _], _ => rfl) (fun vs H Q E h => ?_) (fun cdv A outer s H vs Q E hr h => ?_)
  · obtain ⟨n, r, L, t, k', p, v, q, lo, G, rfl, gh, N, ok, hq, hp, k⟩ := h; rfl
  · have hu := hu_of hr
    obtain ⟨n, r, L, t, k', p, v, q, lo, G, rfl, gh, N, ok, hq, hp, k⟩ := h
    refine ⟨_, (pss_cons (ps_setLc (i := 3) (own := [("tree", 4)]) (g := gName 4) (tt := tYes) (by rfl) sc_cut_trees.nd rfl rfl (sw_true rfl rfl rfl (by decide +kernel)) (pi_tup (pe_fld (pv 0) rfl)) (blkOk_by (N := N_cut_trees) (sc := defScope (topS 47)) (by decide +kernel)) (fun _ _ _ _ _ => pg_name (i := 4) sc_cut_trees.nd rfl (Or.inl rfl)) (fun _ _ _ _ _ => pts_nil) (fun _ _ _ _ _ => (pcall G_way_in (hr.mono (by decide)) rfl (pa_cons (pe_fldK (K := K) (pv 0) rfl) (pa_cons (pv 4) (pa_cons (pv 1) pa_nil))))))
      (pss_one (ps_ret (pe_callB call_len_seq (by rfl) T.b_len (by decide +kernel) (pa_cons (pe_lc (own := [("way", 5)]) (g := gName 5) (by rfl) sc_cut_trees.nd (pi_list (pv 3)) (blkOk_by (N := N_cut_trees) (sc := defScope (topS 47)) (by decide +kernel)) (fun _ _ _ _ _ => pg_name (i := 5) sc_cut_trees.nd rfl (Or.inl rfl)) (fun _ _ _ _ _ => (pts_one (pt_val (pe_callB (cr_anyK (K := K) rfl) (by rfl) T.b_any (by decide +kernel) (pa_cons (pe_lc (own := [("link", 6)]) (g := gName 6) (tt := tYes) (by rfl) sc_cut_trees.nd (pi_tupK (K := K) (pv 5)) (blkOk_by (N := N_cut_trees) (sc := relS _ (defScope (topS 47))) (by decide +kernel)) (fun _ _ _ _ _ => pg_name (i := 6) sc_cut_trees.nd rfl (Or.inl rfl)) (fun _ _ _ _ _ => pts_nil) (fun _ _ _ _ _ => (pe_cmpR (op_in_seqK (K := K)) (pv 6) (pv 2) (by rfl)))) pa_nil))))) (fun _ _ _ _ _ => (pv 5))) pa_nil))))), ?_⟩
    obtain ⟨x, dx, nv, tv, dv, rfl, hx, hn, ht, hd⟩ := N
    obtain ⟨tp, ts, rfl, htp, hts⟩ := ht
    refine ⟨_, rfl, x, _, _, _, _, rfl, gh _ _ hx, T.plan.cl, T.plan_trees, rfl, tp, rfl, ⟨_, SqT.of (gh _ _ htp)⟩, fun D hD => lcTm t (fun y => way n r L y p) (rT rN) (rT rN) gh htp hts hD (Nat.lt_of_le_of_lt ok.m12 (by decide)) ?_ ?_⟩
    · rintro j y u G1 H1 hy hu x1 Q2 k2
      obtain ⟨yp, es, rfl, hyp, hes⟩ := hu
      rw [all2_nat hes] at hyp
      refine ⟨_, rfl, x, _, _, _, _, rfl, x1.old hx, T.plan.cl, T.plan_net, rfl, _, rfl, _, rfl, n, r, L, nv, yp, y, p, G1, rfl, x1.gh, hn.mono x1.gg, hyp, ok.n10, ok.rn, hp, ok.tree y (List.mem_of_getElem? hy), fun G2 H2 f x2 hf => k2 _ _ _ x2 (nat_rT hf)⟩
    · rintro G1 H1 acc x1 hD1 gD ha
      have x2 := x1.freeze hD gD hD1
      refine ⟨_, rfl, D, rfl, ⟨_, SqL.of hD1⟩, fun E hE => lcL (ways n r L t p) (fun y => if meets lo y = true then some y else none) (rT rN) (rT rN) x2.gh upd_same (All2.mono (same_upd gD) ha) hE ?_ ?_ ?_⟩
      · refine Nat.lt_of_le_of_lt (List.length_filterMap_le _ _) ?_
        rw [List.length_map]; exact Nat.lt_of_le_of_lt ok.m12 (by decide)
      · rintro j y u G3 H3 hy hu x3 Q1 Q2 k1 k2
        have hu0 := hu
        obtain ⟨yp, es, rfl, hyp, hes⟩ := hu
        rw [all2_nat hes] at hyp
        have hyl : y.length < sizeLine := by
          obtain ⟨z, hz, rfl⟩ := List.mem_map.mp (List.mem_of_getElem? hy)
          exact Nat.lt_trans (way_lt (ok.tree z hz).isT hp) (Nat.lt_of_le_of_lt ok.n10 (by decide))
        refine ⟨_, rfl, yp, rfl, ⟨_, SqT.of (x3.gh _ _ hyp)⟩, fun E2 hE2 => lcTm y (fun i => decide (i ∈ lo)) rN rB x3.gh hyp (nat_all2 y) hE2 hyl ?_ ?_⟩
        · rintro j z _ G5 H5 hz rfl x5 Q3 k3
          refine ⟨_, rfl, _, rfl, q, _, rfl, .inr (SqT.of (x5.gh _ _ (x5.gg _ _ (x3.gg _ _ (x2.gg _ _ hq))))), rfl, flat_nat lo, ?_⟩
          rw [show (if false = true then !inV (nV z) (lo.map nV) else inV (nV z) (lo.map nV)) = inV (nV z) (lo.map nV) from rfl, inV_nat]
          exact k3 _ _ _ (Xt.refl x5.gh) rfl
        · rintro G5 H5 acc3 x5 hE5 gE5 ha3
          rw [all2_bool ha3] at hE5
          refine ⟨E2, _, rfl, SqL.of hE5, _, rfl, ?_⟩
          rw [any_map]
          refine ite2 (fun c => ⟨_, rfl, k2 _ (if_pos c) _ _ _ x5 (Mn.mono x5.gg hu0)⟩) (fun c => k1 (if_neg c) _ _ x5)
      · rintro G3 H3 acc2 x3 hE3 gE3 ha2
        refine ⟨E, _, rfl, .inl (SqL.of hE3), ?_⟩
        rw [ha2.len, fm_filter]
        exact k _ _ (x2.trans x3)
def sp_is_stopped (K : PySem.W.Frag) : L2.Sp := fun vs H Q _ => ∃ (n r : Nat) (L : List Lk) (t : List (List Nat)) (k p : Nat) (v : V) (q : Addr) (lo : List Nat) (G : Hp), vs = [v, nV p, .ref q] ∧ Same G H ∧ PlanP K n r L t k v G ∧ PlanOk n r L t k ∧
  G q = some (.tup (lo.map nV)) ∧ p < n ∧ ∀ (G' H' : Hp), Xt Pu G H G' H' → Q (.bl (stopB n r L t k p lo)) H'
abbrev N_is_stopped : List Str := ["plan", "place", "lost"]
theorem sc_is_stopped : FnScope N_is_stopped ["plan", "place", "lost"] (defScope (topS 48)) := ⟨rfl, rfl, rfl, by decide +kernel, rfl, by decide +kernel, by decide +kernel⟩
theorem ok_is_stopped (T : Txt K mg) : Keeps P w K mg base 10 "is_stopped" ["plan", "place", "lost"] (sp_is_stopped K) := by
  have G_cut_trees := ok_cut_trees (P := P) (w := w) (base := base) T
  refine T.d_is_stopped.keeps sc_is_stopped (fun _ _ _ _ _ _ us hl => match us, hl with | [_, _, _], _ => rfl) (fun vs H Q E h => ?_) (fun cdv A outer s H vs Q E hr h => ?_)
  · obtain ⟨n, r, L, t, k', p, v, q, lo, G, rfl, gh, N, ok, hq, hp, k⟩ := h; rfl
  · have hu := hu_of hr
    obtain ⟨n, r, L, t, k', p, v, q, lo, G, rfl, gh, N, ok, hq, hp, k⟩ := h
    refine ⟨_, (pss_one (ps_ret (pe_cmpR op_lt (pe_op op_sub (pe_callB call_len_seq (by rfl) T.b_len (by decide +kernel) (pa_cons (pe_fld (pv 0) rfl) pa_nil)) (pcall G_cut_trees (hr.mono (by decide)) rfl (pa_cons (pv 0) (pa_cons (pv 1) (pa_cons (pv 2) pa_nil))))) (pe_fld (pv 0) rfl) (nomark _)))), ?_⟩
    have N0 := N
    obtain ⟨x, dx, nv, tv, dv, rfl, hx, hn, ht, hd⟩ := N
    obtain ⟨tp, ts, rfl, htp, hts⟩ := ht
    refine ⟨_, rfl, x, _, _, _, _, rfl, gh _ _ hx, T.plan.cl, T.plan_trees, rfl, tp, _, rfl, .inr (SqT.of (gh _ _ htp)), _, rfl, _, rfl, _, rfl, n, r, L, t, k', p, _, q, lo, G, rfl, gh, N0, ok, hq, hp, fun G1 H1 x1 => ?_⟩
    refine ⟨_, _, rfl, rfl, _, rfl, x, _, _, _, _, rfl, x1.old hx, T.plan.cl, T.plan_size, rfl, _, _, rfl, rfl, ?_⟩
    rw [hts.len]
    have e : decide (((t.length : Nat) : Int) - ((cutN n r L t p lo : Nat) : Int) < (k' : Int)) = stopB n r L t k' p lo := by
      unfold stopB
      by_cases h : t.length < cutN n r L t p lo + k'
      · rw [decide_eq_true h]; apply decide_eq_true; omega
      · rw [decide_eq_false h]; apply decide_eq_false; omega
    show Q (.bl (decide (((t.length : Nat) : Int) - ((cutN n r L t p lo : Nat) : Int) < (k' : Int)))) H1
    rw [e]
    exact k _ _ x1
def sp_stopped (K : PySem.W.Frag) : L2.Sp := fun vs H Q _ => ∃ (n r : Nat) (L : List Lk) (t : List (List Nat)) (k : Nat) (v : V) (q : Addr) (lo : List Nat) (G : Hp), vs = [v, .ref q] ∧ Same G H ∧ PlanP K n r L t k v G ∧ PlanOk n r L t k ∧
  G q = some (.tup (lo.map nV)) ∧ lo.Pairwise (· < ·) ∧ (∀ x ∈ lo, x < L.length) ∧ ∀ (G' H' : Hp) (f : Addr), Xt Pu G H G' H' → G' f = some (.tup (((List.range n).filter fun p => stopB n r L t k p lo).map nV)) → Q (.ref f) H'
abbrev N_stopped : List Str := ["plan", "lost", "place"]
theorem sc_stopped : FnScope N_stopped ["plan", "lost"] (defScope (topS 49)) := ⟨rfl, rfl, rfl, by decide +kernel, rfl, by decide +kernel, by decide +kernel⟩
theorem ok_stopped (T : Txt K mg) : Keeps P w K mg base 11 "stopped" ["plan", "lost"] (sp_stopped K) := by
  have G_check_plan := ok_check_plan (P := P) (w := w) (base := base) T
  have G_check_lost := ok_check_lost (P := P) (w := w) (base := base) T
  have G_is_stopped := ok_is_stopped (P := P) (w := w) (base := base) T
  refine T.d_stopped.keeps sc_stopped (fun _ _ _ _ _ _ us hl => match us, hl with | [_, _], _ => rfl) (fun vs H Q E h => ?_) (fun cdv A outer s H vs Q E hr h => ?_)
  · obtain ⟨n, r, L, t, k', v, q, lo, G, rfl, gh, N, ok, hq, h1, h2, k⟩ := h; rfl
  · have hu := hu_of hr
    obtain ⟨n, r, L, t, k', v, q, lo, G, rfl, gh, N, ok, hq, h1, h2, k⟩ := h
    refine ⟨_, (pss_cons (ps_expr (pcall G_check_plan (hr.mono (by decide)) rfl (pa_cons (pv 0) pa_nil)))
      (pss_cons (ps_expr (pcall G_check_lost (hr.mono (by decide)) rfl (pa_cons (pe_fld (pv 0) rfl) (pa_cons (pv 1) pa_nil))))
      (pss_one (ps_ret (pe_callTy call_tuple_of (by rfl) T.b_tuple (by decide +kernel) (pa_cons (pe_lc (own := [("place", 2)]) (g := gName 2) (by rfl) sc_stopped.nd (pi_range1 (by rfl) T.b_range (pa_cons (pe_fld (pe_fld (pv 0) rfl) rfl) pa_nil)) (blkOk_by (N := N_stopped) (sc := defScope (topS 49)) (by decide +kernel)) (fun _ _ _ _ _ => pg_name (i := 2) sc_stopped.nd rfl (Or.inl rfl)) (fun _ _ _ _ _ => (pts_one (pt_val (pcall G_is_stopped (hr.mono (by decide)) rfl (pa_cons (pv 0) (pa_cons (pv 2) (pa_cons (pv 1) pa_nil))))))) (fun _ _ _ _ _ => (pv 2))) pa_nil)))))), ?_⟩
    have N0 := N
    obtain ⟨x, dx, nv, tv, dv, rfl, hx, hn, ht, hd⟩ := N
    have hn0 := hn
    obtain ⟨y, dy, lv, rfl, hy, hl⟩ := hn
    refine ⟨_, rfl, n, r, L, t, k', _, _, rfl, N0.mono gh, ?_⟩
    refine ⟨_, rfl, x, _, _, _, _, rfl, gh _ _ hx, T.plan.cl, T.plan_net, rfl, _, rfl, n, r, L, _, q, lo, rfl, hn0.mono gh, gh _ _ hq, h1, h2, ?_⟩
    refine ⟨_, rfl, x, _, _, _, _, rfl, gh _ _ hx, T.plan.cl, T.plan_net, rfl, y, _, _, _, _, rfl, gh _ _ hy, T.net.cl, T.net_many, rfl, (n : Int), rfl, by have := ok.n10; omega, by have := ok.n10; omega, fun D hD => lcR n (fun p => if stopB n r L t k' p lo = true then some p else none) rN gh hD ?_ ?_ ?_⟩
    · refine Nat.lt_of_le_of_lt (List.length_filterMap_le _ _) ?_
      rw [List.length_range]; exact Nat.lt_of_le_of_lt ok.n10 (by decide)
    · rintro j p _ G1 H1 hj rfl x1 Q1 Q2 k1 k2
      refine ⟨_, rfl, _, rfl, _, rfl, n, r, L, t, k', p, _, q, lo, G1, rfl, x1.gh, N0.mono x1.gg, ok, x1.gg _ _ hq, List.mem_range.mp (List.mem_of_getElem? hj), fun G2 H2 x2 => ?_⟩
      exact ⟨_, rfl, ite2 (fun c => ⟨_, rfl, k2 _ (if_pos c) _ _ _ x2 rfl⟩) (fun c => k1 (if_neg c) _ _ x2)⟩
    · rintro G1 H1 acc x1 hD1 gD ha
      rw [fm_filter] at ha
      rw [all2_nat ha] at hD1
      exact ⟨D, _, rfl, .inl ⟨SqL.of hD1, fun f hf => k _ _ f (x1.new hf _) upd_same⟩⟩
theorem dps_get {n r : Nat} {L : List Lk} {t : List Nat} {p : Nat} (hp : p < n) : (dps n r L t)[p]? = some (way n r L t p).length := by
  rw [List.getElem?_map, List.getElem?_range hp]; rfl
def sp_too_many (K : PySem.W.Frag) : L2.Sp := fun vs H Q _ => ∃ (n r : Nat) (L : List Lk) (t : List (List Nat)) (k p : Nat) (v : V), vs = [v, nV p] ∧ PlanP K n r L t k v H ∧ PlanOk n r L t k ∧ p < n ∧ Q (.bl (decide (20000 < prN n r L t p))) H
abbrev N_too_many_stops : List Str := ["plan", "place", "found", "tree"]
theorem sc_too_many_stops : FnScope N_too_many_stops ["plan", "place"] (defScope (topS 50)) := ⟨rfl, rfl, rfl, by decide +kernel, rfl, by decide +kernel, by decide +kernel⟩
theorem ok_too_many_stops (T : Txt K mg) : Keeps P w K mg base 2 "too_many_stops" ["plan", "place"] (sp_too_many K) := by
  have G_depth_of := ok_depth_of (P := P) (w := w) (base := base) T
  refine T.d_too_many_stops.keeps sc_too_many_stops (fun _ _ _ _ _ _ us hl => match us, hl with | [_, _], _ => rfl) (fun vs H Q E h => ?_) (fun cdv A outer s H vs Q E hr h => ?_)
  · obtain ⟨n, r, L, t, k', p, v, rfl, N, ok, hp, k⟩ := h; rfl
  · have hu := hu_of hr
    obtain ⟨n, r, L, t, k', p, v, rfl, N, ok, hp, k⟩ := h
    refine ⟨_, (pss_cons (ps_set (i := 2) sc_too_many_stops.nd rfl (Or.inl rfl) pe_int)
      (pss_cons (ps_for PassesOwn.never rfl (pi_range1 (by rfl) T.b_range (pa_cons (pe_callB call_len_seq (by rfl) T.b_len (by decide +kernel) (pa_cons (pe_fld (pv 0) rfl) pa_nil)) pa_nil)) (pg_name (i := 3) sc_too_many_stops.nd rfl (Or.inl rfl))
      (pss_one (ps_set (i := 2) sc_too_many_stops.nd rfl (Or.inl rfl) (pe_op op_mul (pv 2) (pe_op op_add (pcall G_depth_of (hr.mono (by decide)) rfl (pa_cons (pv 0) (pa_cons (pv 3) (pa_cons (pv 1) pa_nil)))) pe_int)))))
      (pss_one (ps_ret (pe_cmpR op_gt (pv 2) (pgint T.c_MOST_LISTED rfl) (nomark _)))))), ?_⟩
    have N0 := N
    obtain ⟨x, dx, nv, tv, dv, rfl, hx, hn, ht, hd⟩ := N
    obtain ⟨tp, ts, rfl, htp, hts⟩ := ht
    refine ⟨_, rfl, x, _, _, _, _, rfl, hx, T.plan.cl, T.plan_trees, rfl, tp, _, rfl, .inr (SqT.of htp), _, rfl, ?_⟩
    rw [hts.len]
    have := ok.m12
    refine ⟨by omega, by omega, for_range (lo := 0) (n := t.length) (fun i σ H1 => H1 = H ∧ ∃ o, σ = [some (.ref x), some (nV p), some (nV (prd ((t.map fun y => (way n r L y p).length).take i))), o]) ⟨rfl, _, rfl⟩ ?_ ?_⟩
    · rintro i σ H1 hi ⟨rfl, o, rfl⟩
      have hi2 : t[i]? = some t[i] := List.getElem?_eq_getElem hi
      have hiD : (t.map (dps n r L))[i]? = some (dps n r L t[i]) := by rw [List.getElem?_map, hi2]; rfl
      refine ⟨_, rfl, _, rfl, _, rfl, _, rfl, n, r, L, t, k', _, _, i, p, _, _, ?_, N0, hiD, dps_get hp, ?_⟩
      · show [_, V.int (0 + (i : Int)), _] = _
        rw [Int.zero_add]
      refine ⟨_, _, rfl, rfl, _, _, rfl, rfl, .inr ?_, rfl, some (.int (0 + (i : Int))), ?_⟩
      · have := way_lt (ok.tree t[i] (List.getElem_mem hi)).isT hp
        have := ok.n10
        constructor <;> omega
      · have e : (t.map fun y => (way n r L y p).length).take (i + 1) = (t.map fun y => (way n r L y p).length).take i ++ [(way n r L t[i] p).length] := by
          rw [List.take_add_one, List.getElem?_map, hi2]; rfl
        rw [e]
        unfold prd
        rw [List.foldl_append]
        show [_, _, _, _] = _
        simp only [List.foldl_cons, List.foldl_nil, Int.natCast_mul, Int.natCast_add]
        rfl
    · rintro σ H1 ⟨rfl, o, rfl⟩
      have e : (t.map fun y => (way n r L y p).length).take t.length = t.map fun y => (way n r L y p).length := by
        rw [← List.length_map (f := fun y => (way n r L y p).length), List.take_length]
      rw [e]
      refine ⟨_, rfl, _, _, rfl, rfl, ?_⟩
      have e2 : decide ((20000 : Int) < ((prN n r L t p : Nat) : Int)) = decide (20000 < prN n r L t p) := by
        by_cases h : 20000 < prN n r L t p
        · rw [decide_eq_true h]; apply decide_eq_true; omega
        · rw [decide_eq_false h]; apply decide_eq_false; omega
      show Q (.bl (decide ((20000 : Int) < ((prN n r L t p : Nat) : Int)))) H1
      rw [e2]
      exact k
end
end Sp
end

section
set_option Elab.async false
set_option linter.all false
set_option maxRecDepth 100000
set_option maxHeartbeats 4000000
/-! Sparetrees: choices, stops_of. -/
namespace Sp
open PySem PySem.Spec PyProof.Rows L2
theorem flatMap_take_le {α β : Type} (f : α → List β) (xs : List α) (j : Nat) : ((xs.take j).flatMap f).length ≤ (xs.flatMap f).length := by
  conv => rhs; rw [← List.take_append_drop j xs]
  rw [List.flatMap_append, List.length_append]
  omega
theorem take_step {α : Type} {xs : List α} {i : Nat} {x : α} (h : xs[i]? = some x) : xs.take (i + 1) = xs.take i ++ [x] := by
  rw [List.take_add_one, h]; rfl
section
variable {P : Program} {w : World} {K : PySem.W.Frag} {mg : Str → Option Value} {base : Heap}
def sp_choices (K : PySem.W.Frag) : L2.Sp := fun vs H Q _ => ∃ (p : Addr) (C : List (List Nat)) (G : Hp), vs = [.ref p] ∧ Same G H ∧ rT (rT rN) C (.ref p) G ∧ PS1 (C.map List.length) ≤ 20000 ∧ C.length ≤ 12 ∧ (∀ w ∈ C, w.length ≤ 10) ∧
  ∀ (G' H' : Hp) (f : Addr), Xt Pu G H G' H' → rL (rT rN) (prods C) (.ref f) G' → Q (.ref f) H'
abbrev N_choices : List Str := ["ways", "found", "way", "longer", "links", "link"]
theorem sc_choices : FnScope N_choices ["ways"] (defScope (topS 51)) := ⟨rfl, rfl, rfl, by decide +kernel, rfl, by decide +kernel, by decide +kernel⟩
theorem ok_choices (T : Txt K mg) : Keeps P w K mg base 1 "choices" ["ways"] (sp_choices K) := by
  refine T.d_choices.keeps sc_choices (fun _ _ _ _ _ _ us hl => match us, hl with | [_], _ => rfl) (fun vs H Q E h => ?_) (fun cdv A outer s H vs Q E hr h => ?_)
  · obtain ⟨p, C, G, rfl, gh, hp, hps, hC, hw, k⟩ := h; rfl
  · have hu := hu_of hr
    obtain ⟨p, C, G, rfl, gh, hp, hps, hC, hw, k⟩ := h
    refine ⟨_, (pss_cons (ps_set (i := 1) sc_choices.nd rfl (Or.inl rfl) (pe_lst (pa_cons (pe_tup pa_nil) pa_nil)))
      (pss_cons (ps_for PassesOwn.never rfl (pi_tup (pv 0)) (pg_name (i := 2) sc_choices.nd rfl (Or.inl rfl))
      (pss_cons (ps_set (i := 3) sc_choices.nd rfl (Or.inl rfl) (pe_lst pa_nil))
        (pss_cons (ps_for PassesOwn.never rfl (pi_list (pv 1)) (pg_name (i := 4) sc_choices.nd rfl (Or.inr rfl))
        (pss_one (ps_expr (pe_bm PySem.F.plainAttrs_list PySem.F.slot_list_extend PySem.F.type_list_extend mt_extend (pv 3) (pa_cons (pe_lc (own := [("link", 5)]) (g := gName 5) (tt := tYes) (by rfl) sc_choices.nd (pi_tup (pv 2)) (blkOk_by (N := N_choices) (sc := defScope (topS 51)) (by decide +kernel)) (fun _ _ _ _ _ => pg_name (i := 5) sc_choices.nd rfl (Or.inl rfl)) (fun _ _ _ _ _ => pts_nil) (fun _ _ _ _ _ => (pe_op (op_catAK (K := K)) (pv 4) (pe_tup (pa_cons (pv 5) pa_nil))))) pa_nil)))))
        (pss_one (ps_set (i := 1) sc_choices.nd rfl (Or.inl rfl) (pv 3))))))
      (pss_one (ps_ret (pv 1))))), ?_⟩
    have big : (100000 : Nat) ≤ sizeLine := by decide
    obtain ⟨_, cs, e, hp, hcs⟩ := hp
    cases e
    refine ⟨by show 0 ≤ _; decide, fun e0 he0 => ⟨by show 1 ≤ _; decide, fun f0 hf0 => ?_⟩⟩
    have y0 := (((Xt.refl (m := Pu) gh).new he0 (.tup [])).new hf0 (.lst [.ref e0]))
    refine ⟨_, rfl, p, rfl, ⟨_, SqT.of (y0.old hp)⟩, for_tup (xs := cs) (fun i σ H1 => ∃ (G1 : Hp) (fp : Addr) (o2 o3 o4 : Option V), σ = [some (.ref p), some (.ref fp), o2, o3, o4, none] ∧ Xt Pu G H G1 H1 ∧ rL (rT rN) (prods (C.take i)) (.ref fp) G1) ?_ ?_ ?_ ?_⟩
    · have he : (upd (upd G e0 (.tup [])) f0 (.lst [.ref e0])) e0 = some (.tup []) := by
        rw [upd_ne (ne_of_none (o := .tup []) upd_same hf0)]; exact upd_same
      exact ⟨_, f0, _, _, _, rfl, y0, f0, [.ref e0], rfl, upd_same, .one ⟨e0, [], rfl, he, .nil⟩⟩
    · rintro i σ H1 _ ⟨G1, fp, o2, o3, o4, rfl, x1, _⟩
      exact SqT.of (x1.old hp)
    · rintro i wv σ H1 hi ⟨G1, fp, o2, o3, o4, rfl, x1, hf⟩
      obtain ⟨wy, hwy, wp, ws, rfl, hwp, hws⟩ := All2.getV hcs hi
      have hwl : wy.length ≤ 10 := hw wy (List.mem_of_getElem? hwy)
      obtain ⟨_, fs, e, hfp, hfs⟩ := hf
      cases e
      have tot : prods (C.take (i + 1)) = (prods (C.take i)).flatMap fun x => wy.map fun l => x ++ [l] := by
        rw [take_step hwy, prods_snoc]
      have totl : (prods (C.take (i + 1))).length ≤ 20000 := Nat.le_trans (prods_pre C (i + 1)) hps
      refine ⟨by show 0 ≤ _; decide, fun lp hlp => ?_⟩
      refine ⟨_, rfl, fp, rfl, ⟨_, SqL.of (((Xt.refl (m := Pu) x1.gh).newM hlp (.lst [])).old hfp)⟩, for_list (xs := fs) (fun j σ H3 => ∃ (G3 : Hp) (acc : List V) (o4 : Option V), σ = [some (.ref p), some (.ref fp), some (.ref wp), some (.ref lp), o4, none] ∧ Xt Pu G1 H1 G3 H3 ∧ G3 lp = none ∧
        H3 lp = some (.lst acc) ∧ All2 (rT rN) G3 (((prods (C.take i)).take j).flatMap fun x => wy.map fun l => x ++ [l]) acc) ?_ ?_ ?_ ?_⟩
      · exact ⟨G1, [], _, rfl, (Xt.refl x1.gh).newM hlp _, (Xt.refl (m := Pu) x1.gh).gnone hlp, upd_same, .nil⟩
      · rintro j σ H3 _ ⟨G3, acc, o4, rfl, x3, _⟩
        exact SqL.of (x3.old hfp)
      · rintro j xv σ H3 hj ⟨G3, acc, o4, rfl, x3, gl, hl, ha⟩
        obtain ⟨x, hx, xp, xs, rfl, hxp, hxs⟩ := All2.getV hfs hj
        rw [all2_nat hxs] at hxp
        have hxl : x.length ≤ 12 := by
          have := ((prods_mem _ _).mp (List.mem_of_getElem? hx)).1
          rw [this, List.length_take]; omega
        refine ⟨_, rfl, .inl ⟨rfl, _, SqL.of hl⟩, _, rfl, wp, rfl, ⟨_, SqT.of (x3.old (x1.gg _ _ hwp))⟩, fun D hD => lcTm wy (fun l => x ++ [l]) rN (rT rN) x3.gh (x3.gg _ _ (x1.gg _ _ hwp)) (All2.mono (x1.gg.trans x3.gg) hws) hD (by omega) ?_ ?_⟩
        · rintro z l _ G5 H5 hz rfl x5 Q2 k2
          refine ⟨_, rfl, _, rfl, by show 1 ≤ _; decide, fun u hu => ?_⟩
          have x6 := (Xt.refl (m := Pu) x5.gh).new hu (.tup [nV l])
          refine ⟨xp, u, _, _, rfl, rfl, SqT.of (x6.old ((x3.gg.trans x5.gg) _ _ hxp)), SqT.of upd_same, ?_, ?_, ?_, ?_⟩
          · rw [List.length_map]; show _ + 1 ≤ _; omega
          · intro e
            have : x = [] := List.map_eq_nil_iff.mp e
            subst this
            exact k2 _ _ _ x6 ⟨u, _, rfl, upd_same, nat_all2 [l]⟩
          · intro _ e; cases e
          · intro _ _ b hb
            refine k2 _ _ _ (x6.new hb _) (nat_rT (p := b) ?_)
            rw [upd_same, List.map_append]; rfl
        · rintro G5 H5 acc5 x5 hD5 gD5 ha5
          have hl5 := x5.hh _ _ (fun z => z) hl
          have step : (((prods (C.take i)).take (j + 1)).flatMap fun x => wy.map fun l => x ++ [l]) = (((prods (C.take i)).take j).flatMap fun x => wy.map fun l => x ++ [l]) ++ wy.map fun l => x ++ [l] := by
            rw [take_step hx, List.flatMap_append]; simp
          have ha6 : All2 (rT rN) G5 (((prods (C.take i)).take (j + 1)).flatMap fun x => wy.map fun l => x ++ [l]) (acc ++ acc5) := by
            rw [step]; exact (All2.mono x5.gg ha).app ha5
          refine ⟨lp, D, _, _, rfl, rfl, hl5, hD5, ?_, ?_⟩
          · have h1 := ha6.len
            rw [List.length_append] at h1
            have h2 := flatMap_take_le (fun x => wy.map fun l => x ++ [l]) (prods (C.take i)) (j + 1)
            rw [← tot] at h2
            omega
          · have gl5 := x5.fr lp (by rw [hl]; simp) gl
            exact ⟨G5, _, _, rfl, (x3.trans x5).mut (.inl hlp) gl5 _, gl5, upd_same, ha6⟩
      · rintro σ H3 ⟨G3, acc, o4, rfl, x3, gl, hl, ha⟩
        rw [hfs.len, List.take_length, ← tot] at ha
        refine ⟨_, rfl, _, lp, _, _, _, rfl, (x1.trans (x3.freeze hlp gl hl)), lp, acc, rfl, upd_same, All2.mono (same_upd gl) ha⟩
    · rintro σ H1 ⟨G1, fp, o2, o3, o4, rfl, x1, hf⟩
      rw [hcs.len, List.take_length] at hf
      exact ⟨_, rfl, k _ _ _ x1 hf⟩
end
end Sp
end

section
set_option Elab.async false
set_option linter.all false
set_option maxRecDepth 100000
set_option maxHeartbeats 4000000
/-! Sparetrees: stops_of. -/
namespace Sp
open PySem PySem.Spec PyProof.Rows L2
/-! ### sorted lists of lots -/
def kOf (G : Hp) : V → List Int
  | .ref t => (match G t with
    | some (.tup vs) => vs.map fun v => (match v with
      | .int i => i
      | _ => 0)
    | _ => [])
  | _ => []
theorem kOf_eq {G : Hp} {x : List Nat} {v : V} (h : rT rN x v G) : kOf G v = keyN x := by
  obtain ⟨p, rfl, hp⟩ := rT_nat h
  unfold kOf
  simp only [hp, List.map_map]
  rfl
theorem all2_perm {α : Type} {R : Rp α} {G : Hp} {vs ws : List V} (h : ws.Perm vs) : ∀ {xs : List α}, All2 R G xs vs → ∃ ys, ys.Perm xs ∧ All2 R G ys ws := by
  induction h with
  | nil => intro xs h; exact ⟨xs, List.Perm.refl _, h⟩
  | cons v _ ih =>
    intro xs h
    cases h with
    | cons r t =>
      obtain ⟨ys, h1, h2⟩ := ih t
      exact ⟨_ :: ys, h1.cons _, .cons r h2⟩
  | swap a b l =>
    intro xs h
    cases h with
    | cons r t =>
      cases t with
      | cons r2 t2 => exact ⟨_ :: _ :: _, List.Perm.swap _ _ _, .cons r2 (.cons r t2)⟩
  | trans _ _ ih1 ih2 =>
    intro xs h
    obtain ⟨ys, h1, h2⟩ := ih2 h
    obtain ⟨zs, h3, h4⟩ := ih1 h2
    exact ⟨zs, h3.trans h1, h4⟩
theorem all2_mem {α : Type} {R : Rp α} {G : Hp} {v : V} : ∀ {xs : List α} {vs : List V}, All2 R G xs vs → v ∈ vs → ∃ x ∈ xs, R x v G
  | _, _, .nil, h => by cases h
  | _, _, .cons r t, h => by
    rcases List.mem_cons.mp h with rfl | h
    · exact ⟨_, List.mem_cons_self, r⟩
    · obtain ⟨x, h1, h2⟩ := all2_mem t h
      exact ⟨x, List.mem_cons_of_mem _ h1, h2⟩
theorem all2_memL {α : Type} {R : Rp α} {G : Hp} {x : α} : ∀ {xs : List α} {vs : List V}, All2 R G xs vs → x ∈ xs → ∃ v ∈ vs, R x v G
  | _, _, .nil, h => by cases h
  | _, _, .cons r t, h => by
    rcases List.mem_cons.mp h with rfl | h
    · exact ⟨_, List.mem_cons_self, r⟩
    · obtain ⟨x, h1, h2⟩ := all2_memL t h
      exact ⟨x, List.mem_cons_of_mem _ h1, h2⟩
theorem all2_lexd {G : Hp} : ∀ {S : List (List Nat)} {ys : List V}, All2 (rT rN) G S ys → ys.Pairwise (fun x y => HT.lexLt (kOf G y) (kOf G x) = false) → Lexd S
  | _, _, .nil, _ => List.Pairwise.nil
  | _, _, .cons r t, h => by
    obtain ⟨h1, h2⟩ := List.pairwise_cons.mp h
    refine List.pairwise_cons.mpr ⟨fun y hy => ?_, all2_lexd t h2⟩
    obtain ⟨v, hv, hr⟩ := all2_memL t hy
    have := h1 v hv
    rwa [kOf_eq hr, kOf_eq r] at this
theorem sort_nat {ns : List Int} {x : List Nat} (h : ns.Perm (keyN x)) (hs : ns.Pairwise (· ≤ ·)) : ns = keyN (srt x) := by
  have nn : ∀ i ∈ ns, 0 ≤ i := fun i hi => by
    obtain ⟨n, _, rfl⟩ := List.mem_map.mp (h.mem_iff.mp hi)
    exact Int.natCast_nonneg n
  have e := nats_of ns nn
  have h1 : (ns.map Int.toNat).Perm x := by
    have := h.map Int.toNat
    have e2 : (keyN x).map Int.toNat = x := by
      rw [List.map_map]
      conv => rhs; rw [← List.map_id x]
      exact List.map_congr_left fun n _ => by simp
    rwa [e2] at this
  have h2 : (ns.map Int.toNat).Pairwise (· ≤ ·) := by
    rw [List.pairwise_map]
    exact hs.imp_of_mem fun {a b} ha hb hab => by have := nn a ha; have := nn b hb; omega
  rw [e, srt_uniq h1 h2]
theorem all2_pick {G : Hp} {W : List (List Nat)} {ws : List V} (h : All2 (rT rN) G W ws) : ∀ {a : List Nat}, (∀ j ∈ a, j < W.length) → All2 (rT rN) G (pickW W a) (SpC.chs ws a)
  | [], _ => .nil
  | j :: a, hj => by
    have hlt := hj j List.mem_cons_self
    obtain ⟨v, hv, r⟩ := All2.get h (List.getElem?_eq_getElem hlt)
    have e1 : W.getD j [] = W[j] := by rw [List.getD_eq_getElem?_getD, List.getElem?_eq_getElem hlt]; rfl
    have e2 : ws.getD j .non = v := by rw [List.getD_eq_getElem?_getD, hv]; rfl
    refine .cons ?_ (all2_pick h fun i hi => hj i (List.mem_cons_of_mem _ hi))
    show rT rN (W.getD j []) (ws.getD j .non) G
    rw [e1, e2]; exact r
/-- a list that is new since H0, and not held yet -/
structure FL {α : Type} (R : Rp α) (xs : List α) (f : Addr) (H0 G H : Hp) : Prop where
  n0 : H0 f = none
  g : G f = none
  ex : ∃ acc, H f = some (.lst acc) ∧ All2 R G xs acc
theorem FL.frz {α : Type} {R : Rp α} [Mn R] {xs : List α} {f : Addr} {m : Addr → Prop} {G0 H0 G H : Hp} (x : Xt m G0 H0 G H) (h : FL R xs f H0 G H) : ∃ G', Xt m G0 H0 G' H ∧ Same G G' ∧ rL R xs (.ref f) G' := by
  obtain ⟨acc, h1, h2⟩ := h.ex
  exact ⟨_, x.freeze h.n0 h.g h1, same_upd h.g, f, acc, rfl, upd_same, All2.mono (same_upd h.g) h2⟩
section
variable {P : Program} {w : World} {K : PySem.W.Frag} {mg : Str → Option Value} {base : Heap}
def sp_stops_of (K : PySem.W.Frag) : L2.Sp := fun vs H Q _ => ∃ (n r : Nat) (L : List Lk) (t : List (List Nat)) (k p : Nat) (v : V) (G : Hp), vs = [v, nV p] ∧ Same G H ∧ PlanP K n r L t k v G ∧ PlanOk n r L t k ∧ p < n ∧ prN n r L t p ≤ 20000 ∧
  ∀ (G' H' : Hp) (f : Addr) (S : List (List Nat)), Xt Pu G H G' H' → StopsL (ways n r L t p) (t.length + 1 - k) S → FL (rT rN) S f H G' H' → Q (.ref f) H'
abbrev N_stops_of : List Str := ["plan", "place", "ways", "many", "found", "some", "tree", "links"]
theorem sc_stops_of : FnScope N_stops_of ["plan", "place"] (defScope (topS 52)) := ⟨rfl, rfl, rfl, by decide +kernel, rfl, by decide +kernel, by decide +kernel⟩
theorem ok_stops_of (T : Txt K mg) : Keeps P w K mg base 9 "stops_of" ["plan", "place"] (sp_stops_of K) := by
  have G_way_in := ok_way_in (P := P) (w := w) (base := base) T
  have G_choices := ok_choices (P := P) (w := w) (base := base) T
  refine T.d_stops_of.keeps sc_stops_of (fun _ _ _ _ _ _ us hl => match us, hl with | [_, _], _ => rfl) (fun vs H Q E h => ?_) (fun cdv A outer s H vs Q E hr h => ?_)
  · obtain ⟨n, r, L, t, k', p, v, G, rfl, gh, N, ok, hp, hprd, k⟩ := h; rfl
  · have hu := hu_of hr
    obtain ⟨n, r, L, t, k', p, v, G, rfl, gh, N, ok, hp, hprd, k⟩ := h
    refine ⟨_, (pss_cons (ps_setLc (i := 2) (own := [("tree", 6)]) (g := gName 6) (tt := tYes) (by rfl) sc_stops_of.nd rfl rfl (sw_true rfl rfl rfl (by decide +kernel)) (pi_tup (pe_fld (pv 0) rfl)) (blkOk_by (N := N_stops_of) (sc := defScope (topS 52)) (by decide +kernel)) (fun _ _ _ _ _ => pg_name (i := 6) sc_stops_of.nd rfl (Or.inl rfl)) (fun _ _ _ _ _ => pts_nil) (fun _ _ _ _ _ => (pcall G_way_in (hr.mono (by decide)) rfl (pa_cons (pe_fldK (K := K) (pv 0) rfl) (pa_cons (pv 6) (pa_cons (pv 1) pa_nil))))))
      (pss_cons (ps_set (i := 3) sc_stops_of.nd rfl (Or.inl rfl) (pe_op op_add (pe_op op_sub (pe_callB call_len_seq (by rfl) T.b_len (by decide +kernel) (pa_cons (pv 2) pa_nil)) (pe_fld (pv 0) rfl)) pe_int))
      (pss_cons (ps_set (i := 4) sc_stops_of.nd rfl (Or.inl rfl) (pe_lst pa_nil))
      (pss_cons (ps_for PassesOwn.never rfl (SpC.pi_comb (by rfl) T.g_combinations (pa_cons (pv 2) (pa_cons (pe_callTy call_int1 (by rfl) T.b_int (by decide +kernel) (pa_cons (pv 3) pa_nil)) pa_nil))) (pg_name (i := 5) sc_stops_of.nd rfl (Or.inl rfl))
      (pss_one (ps_expr (pe_bm PySem.F.plainAttrs_list PySem.F.slot_list_extend PySem.F.type_list_extend mt_extend (pv 4) (pa_cons (pe_lc (own := [("links", 7)]) (g := gName 7) (tt := tYes) (by rfl) sc_stops_of.nd (pi_list (pcall G_choices (hr.mono (by decide)) rfl (pa_cons (pv 5) pa_nil))) (blkOk_by (N := N_stops_of) (sc := defScope (topS 52)) (by decide +kernel)) (fun _ _ _ _ _ => pg_name (i := 7) sc_stops_of.nd rfl (Or.inl rfl)) (fun _ _ _ _ _ => pts_nil) (fun _ _ _ _ _ => (pe_callTy (call_tuple_ofK (K := K)) (by rfl) T.b_tuple (by decide +kernel) (pa_cons (pe_callB (cr_sortITK (K := K)) (by rfl) T.b_sorted (by decide +kernel) (pa_cons (pv 7) pa_nil)) pa_nil)))) pa_nil)))))
      (pss_one (ps_ret (pe_callB cr_sortTT (by rfl) T.b_sorted (by decide +kernel) (pa_cons (pv 4) pa_nil)))))))), ?_⟩
    have big : (100000 : Nat) ≤ sizeLine := by decide
    obtain ⟨x, dx, nv, tv, dv, rfl, hx, hn, ht, hd⟩ := N
    obtain ⟨tp, ts, rfl, htp, hts⟩ := ht
    have m1 := ok.m1; have m12 := ok.m12; have k1 := ok.k1; have km := ok.km
    refine ⟨_, rfl, x, _, _, _, _, rfl, gh _ _ hx, T.plan.cl, T.plan_trees, rfl, tp, rfl, ⟨_, SqT.of (gh _ _ htp)⟩, fun D hD => lcTm t (fun y => way n r L y p) (rT rN) (rT rN) gh htp hts hD (Nat.lt_of_le_of_lt ok.m12 (by decide)) ?_ ?_⟩
    · rintro j y u G1 H1 hy hu x1 Q2 k2
      obtain ⟨yp, es, rfl, hyp, hes⟩ := hu
      rw [all2_nat hes] at hyp
      refine ⟨_, rfl, x, _, _, _, _, rfl, x1.old hx, T.plan.cl, T.plan_net, rfl, _, rfl, _, rfl, n, r, L, nv, yp, y, p, G1, rfl, x1.gh, hn.mono x1.gg, hyp, ok.n10, ok.rn, hp, ok.tree y (List.mem_of_getElem? hy), fun G2 H2 f x2 hf => k2 _ _ _ x2 (nat_rT hf)⟩
    · rintro G1 H1 ws x1 hD1 gD hws
      have x2 := x1.freeze hD gD hD1
      have hws2 : All2 (rT rN) (upd G1 D (.lst ws)) (ways n r L t p) ws := All2.mono (same_upd gD) hws
      have wlen : (ways n r L t p).length = t.length := List.length_map _
      have lens : (ways n r L t p).map List.length = t.map fun y => (way n r L y p).length := by rw [List.map_map]; rfl
      have tot : PS1 ((ways n r L t p).map List.length) ≤ 20000 := by
        rw [lens, ← prd_eq]; exact hprd
      refine ⟨_, rfl, D, _, rfl, .inl (SqL.of hD1), _, rfl, x, _, _, _, _, rfl, x2.old hx, T.plan.cl, T.plan_size, rfl, _, _, rfl, rfl, _, _, rfl, rfl, ?_⟩
      refine ⟨by show 0 ≤ _; decide, fun fp hfp => ?_⟩
      refine ⟨_, rfl, _, rfl, .inl ⟨_, rfl, ?_⟩⟩
      have ews : ws.length = t.length := by rw [hws.len, wlen]
      have x3 := x2.newM hfp (.lst [])
      refine ⟨D, ws, t.length + 1 - k', combs (List.range ws.length) (t.length + 1 - k'), ?_, SqL.of (x3.gh _ _ upd_same), by omega, chain_combs (by omega) (by omega), ?_⟩
      · rw [ews]; congr 3; omega
      have gf3 := (Xt.refl (m := Pu) x2.gh).gnone hfp
      refine for_it (SpC.walk_comb (xs := ws) (L := combs (List.range ws.length) (t.length + 1 - k'))) (fun i σ H3 => ∃ (G3 : Hp) (acc : List V) (o3 o5 : Option V), σ = [some (.ref x), some (nV p), some (.ref D), o3, some (.ref fp), o5, none, none] ∧ Xt Pu (upd G1 D (.lst ws)) H1 G3 H3 ∧ G3 fp = none ∧
        H3 fp = some (.lst acc) ∧ All2 (rT rN) G3 (rawOf ((combs (ways n r L t p) (t.length + 1 - k')).take i)) acc) ?_ ?_ ?_ ?_
      · exact ⟨_, [], _, _, rfl, (Xt.refl x2.gh).newM hfp _, gf3, upd_same, .nil⟩
      · intro _ _ _ _ _; trivial
      · rintro i y σ H3 H4 hi ⟨G3, acc, o3, o5, rfl, x4, gf, hf, ha⟩ ⟨Tp, a, rfl, hT, hia, rfl⟩
        have hia2 : (combs (ways n r L t p) (t.length + 1 - k'))[i]? = some (pickW (ways n r L t p) a) := by
          rw [combs_W, wlen, List.getElem?_map, show combs (List.range t.length) (t.length + 1 - k') = combs (List.range ws.length) (t.length + 1 - k') by rw [ews], hia]; rfl
        have hal : ∀ j ∈ a, j < (ways n r L t p).length := fun j hj => by
          have := ((combs_mem _ _ _).mp (List.mem_of_getElem? hia)).1.subset hj
          rw [List.mem_range] at this; omega
        have hCsub : (pickW (ways n r L t p) a).Sublist (ways n r L t p) := ((combs_mem _ _ _).mp (List.mem_of_getElem? hia2)).1
        have hT2 : rT (rT rN) (pickW (ways n r L t p) a) (.ref Tp) (upd G3 Tp (.tup (SpC.chs ws a))) := ⟨Tp, _, rfl, upd_same, All2.mono (x4.gg.trans (same_upd (x4.gnone hT))) (all2_pick hws2 hal)⟩
        have x5 := x4.new hT (.tup (SpC.chs ws a))
        have x5' := (Xt.refl (m := Pu) x4.gh).new hT (.tup (SpC.chs ws a))
        have hf5 := x5'.hh _ _ (fun z => z) hf
        refine ⟨_, rfl, .inl ⟨rfl, _, SqL.of hf5⟩, _, rfl, Tp, _, _, rfl, x5.gh, hT2, ?_, ?_, ?_, ?_⟩
        · exact Nat.le_trans (PS1_sub (hCsub.map _)) tot
        · have := hCsub.length_le; omega
        · intro z hz
          obtain ⟨q, hq, rfl⟩ := List.mem_map.mp (hCsub.subset hz)
          have := way_lt (ok.tree q hq).isT hp
          have := ok.n10; omega
        rintro G5 H5 f x6 ⟨_, fs, e, hfl, hfs⟩
        cases e
        have hpl : (prods (pickW (ways n r L t p) a)).length ≤ 20000 := by
          rw [prods_len]
          exact Nat.le_trans (PL_le _) (Nat.le_trans (PS1_sub (hCsub.map _)) tot)
        refine ⟨f, rfl, ⟨_, SqL.of (x6.gh _ _ hfl)⟩, fun E hE => lcLm (prods (pickW (ways n r L t p) a)) srt (rT rN) (rT rN) x6.gh hfl hfs hE (by omega) ?_ ?_⟩
        · rintro z l u G7 H7 hz hu x7 Q2 k2
          obtain ⟨lp, rfl, hlp⟩ := rT_nat hu
          rw [map_nV] at hlp
          refine ⟨_, rfl, lp, keyN l, rfl, SqT.of (x7.gh _ _ hlp), fun ns' q hper hsrt hq => ?_⟩
          have e := sort_nat hper hsrt
          subst e
          have x8 := (Xt.refl (m := Pu) x7.gh).newM hq (.lst ((keyN (srt l)).map V.int))
          refine ⟨q, _, rfl, .inl ⟨SqL.of upd_same, fun b hb => ?_⟩⟩
          refine k2 _ _ _ (x8.new hb _) (nat_rT (p := b) ?_)
          rw [upd_same, map_nV]
        · rintro G7 H7 acc7 x7 hE7 gE7 ha7
          have x67 := x6.trans x7
          have hf7 := x67.hh _ _ (fun z => z) hf5
          have gf7 : G7 fp = none := (x5'.trans x67).fr fp (by rw [hf]; simp) gf
          have ha8 : All2 (rT rN) G7 (rawOf ((combs (ways n r L t p) (t.length + 1 - k')).take (i + 1))) (acc ++ acc7) := by
            rw [take_step hia2]
            unfold rawOf
            rw [List.flatMap_append]
            refine (All2.mono (x5'.trans x67).gg ha).app ?_
            simpa using ha7
          refine ⟨fp, E, _, _, rfl, rfl, hf7, hE7, ?_, ?_⟩
          · have h1 := ha8.len
            rw [List.length_append] at h1
            have h2 := rawOf_take (combs (ways n r L t p) (t.length + 1 - k')) (i + 1)
            have h3 := raw_len (ways n r L t p) (t.length + 1 - k')
            unfold raw at h3
            omega
          · have x9 := x5.trans x67
            exact ⟨G7, _, o3, some (.ref Tp), rfl, x9.mut (.inl hfp) gf7 _, gf7, upd_same, ha8⟩
      · rintro σ H3 ⟨G3, acc, o3, o5, rfl, x4, gf, hf, ha⟩
        have e : (combs (List.range ws.length) (t.length + 1 - k')).length = (combs (ways n r L t p) (t.length + 1 - k')).length := by
          rw [combs_W, List.length_map, wlen, ews]
        rw [e, List.take_length] at ha
        have ha' : All2 (rT rN) G3 (raw (ways n r L t p) (t.length + 1 - k')) acc := ha
        refine ⟨_, rfl, fp, acc, kOf G3, rfl, SqL.of hf, ?_, fun ys q hper hpw hq => ?_⟩
        · intro u hu
          obtain ⟨l, hl, hr⟩ := all2_mem ha' hu
          rw [kOf_eq hr]
          obtain ⟨lp, rfl, hlp⟩ := rT_nat hr
          rw [map_nV] at hlp
          refine ⟨lp, rfl, SqT.of (x4.gh _ _ hlp), ?_⟩
          rw [List.length_map, raw_length hl]; omega
        · obtain ⟨S, hS1, hS2⟩ := all2_perm hper ha'
          have x5 := (x2.trans x4).newM hq (.lst ys)
          exact k _ _ q S x5 ⟨hS1, all2_lexd hS2 hpw⟩ ⟨(x2.trans x4).hnone hq, x4.gnone hq, ys, upd_same, hS2⟩
end
end Sp
end

section
set_option Elab.async false
set_option linter.all false
set_option maxRecDepth 100000
set_option maxHeartbeats 4000000
/-! Sparetrees: what raises. -/
namespace Sp
open PySem PySem.Spec PyProof.Rows L2
/-- a promise of a def that may raise -/
structure KeepsX (P : Program) (w : World) (K : PySem.W.Frag) (mg : Str → Option Value) (base : Heap) (k : Nat) (x : Str) (ps : List Str) (sp : L2.Sp) : Prop where
  ex : ∃ f fd, mg x = some (.ref f) ∧ FnOk P w K mg base (L2.CX P w) k f fd ps sp ∧ Binds K fd ps [] ∧ PySem.W.keepIn K (.ref f) = true
section
variable {P : Program} {w : World} {K : PySem.W.Frag} {mg : Str → Option Value} {base : Heap}
theorem DefAt.keepsX {x : Str} {i : Nat} {N ps : List Str} {k : Nat} {sp : L2.Sp} (D : DefAt K mg x i) (S : FnScope N ps (defScope (topS i)))
    (h : ∀ (kV doc pm : Value) (an : Option Addr) (cdv ct : Value) (us : List Value), us.length = ps.length → bindArgs (PySem.W.fnOf x x (defArgs (topS i)) (defBody (topS i)) (defScope (topS i)) .none kV doc pm an cdv ct) ⟨us, []⟩ = pure (ps.zip us))
    (len : ∀ vs H Q E, sp vs H Q E → vs.length = ps.length)
    (hbody : ∀ (cdv : Value) (A : Around) (outer : List Env) (s : Shared) (H : Hp) (vs : List V) (Q : VK) (E : XK), Room k (A.deeper (envOfC x (defScope (topS i)) s.heap.objs.size (He.ga K x) cdv)) → sp vs H Q E →
      ∃ t, PSs (cxOf (L2.CX P w) P w K mg base N x (defScope (topS i)) (He.ga K x) cdv A outer s H E) (defBody (topS i)) t ∧ t { nx := fun _ H' => Q .non H', rt := Q } (L2.start N vs) H) : KeepsX P w K mg base (k + 1) x ps sp := by
  obtain ⟨gm, fd, F⟩ := D
  exact ⟨_, fd, gm, FunD.ok F S len fun cdv A outer s H vs Q E hr hsp => hbody cdv A outer s H vs Q E hr hsp, FunD.bindsN F h, F.kp⟩
theorem pcallX {X : Cx} {k : Nat} {x : Str} {ps : List Str} {sp : L2.Sp} {E : XK} {e : Expr} {es : List Expr} {t : TA} {p pos : Pos} (G : KeepsX X.prog X.w X.K X.mg X.base k x ps sp) (hr : Room k X.A) (hg : Gl X x) (hx : Passes (L2.CX X.prog X.w) X E) (ha : PA X (e :: es) t)
    (hdb : (x == ("__debug__" : Str)) = false := by decide) (he : starEach (e :: es) X.env = (false, eval e X.env) :: starEach es X.env := by rfl) (hpl : (backTo pos (starEach es X.env)).any (·.1) = false := by rfl) :
    PE X (.Call (.Name x p) (e :: es) [] pos) (tCall sp [] E t) := by
  obtain ⟨f, fd, gm, F, b, kp⟩ := G.ex
  exact pe_call F hr hg gm kp b .nil hx ha hdb he hpl
/-! ### TooMany -/
theorem sc_TM : FnScope ["self", "most"] ["self", "most"] (defScope (inClass (topS 14) 0)) := ⟨rfl, rfl, rfl, by decide +kernel, rfl, by decide +kernel, by decide +kernel⟩
def sp_TM (K : PySem.W.Frag) : L2.Sp := fun vs H Q _ => ∃ a v, vs = [.ref a, v] ∧ H a = some (exo a (He.ga K "TooMany") none) ∧ ∀ dx, H dx = none → dx ≠ a → Q .non (upd (upd H dx (exd dx [("most", v)])) a (exo a (He.ga K "TooMany") (some dx)))
theorem ok_TM (T : Txt K mg) : ∃ fd, FnOk P w K mg base CX0 1 (He.ma K (He.ga K "TooMany") "__init__") fd ["self", "most"] (sp_TM K) ∧ Binds K fd ["self", "most"] [] := by
  obtain ⟨fd, F⟩ := T.tm_fd
  refine ⟨fd, FunD.ok F sc_TM (fun vs H Q E h => ?_) (fun cdv A outer s H vs Q E hr h => ?_), FunD.bindsN F fun _ _ _ _ _ _ us hl => match us, hl with | [_, _], _ => rfl⟩
  · obtain ⟨a, v, rfl, _⟩ := h; rfl
  · obtain ⟨a, v, rfl, ha, k⟩ := h
    refine ⟨_, pss_one (ps_ost (pv 0) (pv 1)), ?_⟩
    exact ⟨_, rfl, _, rfl, a, _, rfl, T.tm, T.tm_most, .inl ⟨ha, fun dx n ne => k dx n ne⟩⟩
/-- it was raised -/
abbrev Rsd (K : PySem.W.Frag) (H : Hp) (E : XK) : Prop := ∀ H' d, Same H H' → H' d = some (.xd [("most", .int 20000)]) → E (.ref (He.ga K "TooMany")) (some d) H'
theorem tmk {H : Hp} {E : XK} (σ : L2.St) (h : Rsd K H E) : tMkO (He.ga K "TooMany") (sp_TM K) [] (tCons (tC (.int 20000)) tNil) σ H E := by
  refine ⟨by show 1 ≤ 1000; decide, fun a ha => ⟨a, .int 20000, rfl, upd_same, fun dx hdx hne => ⟨rfl, dx, [("most", .int 20000)], upd_same, ?_, ?_, ?_⟩⟩⟩
  · rw [upd_ne hne]; exact upd_same
  · rw [upd_ne hne] at hdx; exact hdx
  · refine h _ dx (fun b o hb => ?_) upd_same
    rw [upd_ne hne] at hdx
    have h1 : b ≠ dx := ne_of_none hb hdx
    have h2 : b ≠ a := ne_of_none hb ha
    rw [upd_ne h1, del_ne h2, upd_ne h2, upd_ne h1, upd_ne h2]
    exact hb
def sp_stops (K : PySem.W.Frag) : L2.Sp := fun vs H Q E => ∃ (n r : Nat) (L : List Lk) (t : List (List Nat)) (k p : Nat) (v : V) (G : Hp), vs = [v, nV p] ∧ Same G H ∧ PlanP K n r L t k v G ∧ PlanOk n r L t k ∧ p < n ∧ p ≠ r ∧
  (20000 < prN n r L t p → Rsd K H E) ∧ (prN n r L t p ≤ 20000 → ∀ (G' H' : Hp) (f : Addr) (S : List (List Nat)), Xt Pu G H G' H' → StopsL (ways n r L t p) (t.length + 1 - k) S → FL (rT rN) S f H G' H' → Q (.ref f) H')
abbrev N_stops : List Str := ["plan", "place"]
theorem sc_stops : FnScope N_stops ["plan", "place"] (defScope (topS 53)) := ⟨rfl, rfl, rfl, by decide +kernel, rfl, by decide +kernel, by decide +kernel⟩
theorem ok_stops (T : Txt K mg) : KeepsX P w K mg base 10 "stops" ["plan", "place"] (sp_stops K) := by
  have G_check_plan := ok_check_plan (P := P) (w := w) (base := base) T
  have G_is_within := ok_is_within (P := P) (w := w) (base := base) T
  have G_too_many_stops := ok_too_many_stops (P := P) (w := w) (base := base) T
  have G_stops_of := ok_stops_of (P := P) (w := w) (base := base) T
  obtain ⟨fdT, FTM, BTM⟩ := ok_TM (P := P) (w := w) (base := base) T
  refine T.d_stops.keepsX sc_stops (fun _ _ _ _ _ _ us hl => match us, hl with | [_, _], _ => rfl) (fun vs H Q E h => ?_) (fun cdv A outer s H vs Q E hr h => ?_)
  · obtain ⟨n, r, L, t, k', p, v, G, rfl, gh, N, ok, hp, hpr, kr, k⟩ := h; rfl
  · have hu := hu_of hr
    obtain ⟨n, r, L, t, k', p, v, G, rfl, gh, N, ok, hp, hpr, kr, k⟩ := h
    refine ⟨_, (pss_cons (ps_expr (pcall G_check_plan (hr.mono (by decide)) rfl (pa_cons (pv 0) pa_nil)))
      (pss_cons (ps_if (PW.pt (pw_or (pt_not (pt_val (pcall G_is_within (hr.mono (by decide)) rfl (pa_cons (pv 1) (pa_cons pe_int (pa_cons (pe_op op_sub (pe_fld (pe_fld (pv 0) rfl) rfl) pe_int) pa_nil)))))) (pw_or1 (pt_cmpR op_eq (pv 1) (pe_fld (pe_fld (pv 0) rfl) rfl) (nomark _)))))
      (pss_one ps_never)
      pss_nil)
      (pss_cons (ps_if (pt_val (pcall G_too_many_stops (hr.mono (by decide)) rfl (pa_cons (pv 0) (pa_cons (pv 1) pa_nil))))
      (pss_one (ps_raise rfl (takes_of rfl rfl rfl rfl) (pmk_oex T.tm T.tm_init T.tm_ty FTM (hr.mono (by decide)) BTM .nil pass0 rfl T.tm_g (pa_cons (pgint T.c_MOST_LISTED rfl) pa_nil))))
      pss_nil)
      (pss_one (ps_ret (pcall G_stops_of (hr.mono (by decide)) rfl (pa_cons (pv 0) (pa_cons (pv 1) pa_nil)))))))), ?_⟩
    have N0 := N
    obtain ⟨x, dx, nv, tv, dv, rfl, hx, hn, ht, hd⟩ := N
    obtain ⟨y, dy, lv, rfl, hy, hl⟩ := hn
    refine ⟨_, rfl, n, r, L, t, k', _, _, rfl, N0.mono gh, ?_⟩
    refine ⟨_, rfl, _, rfl, x, _, _, _, _, rfl, gh _ _ hx, T.plan.cl, T.plan_net, rfl, y, _, _, _, _, rfl, gh _ _ hy, T.net.cl, T.net_many, rfl, _, _, rfl, rfl, (p : Int), 0, (n : Int) - 1, rfl, ?_⟩
    rw [decide_eq_true (by omega)]
    refine ⟨true, rfl, iteF ?_⟩
    refine ⟨_, rfl, _, rfl, x, _, _, _, _, rfl, gh _ _ hx, T.plan.cl, T.plan_net, rfl, y, _, _, _, _, rfl, gh _ _ hy, T.net.cl, T.net_root, rfl, rfl, _, rfl, ?_⟩
    rw [nV_dec, decide_eq_false hpr]
    refine iteF ?_
    refine ⟨_, rfl, _, rfl, n, r, L, t, k', p, _, rfl, N0.mono gh, ok, hp, _, rfl, ?_⟩
    refine ite2 (fun c => ?_) (fun c => ?_)
    · exact tmk _ (kr (of_decide_eq_true c))
    · have c2 : prN n r L t p ≤ 20000 := by have := of_decide_eq_false (Bool.eq_false_iff.mpr c); omega
      exact ⟨_, rfl, _, rfl, n, r, L, t, k', p, _, G, rfl, gh, N0, ok, hp, c2, k c2⟩
/-- the first of what stops tells -/
def rFirst (n r : Nat) (L : List Lk) (t : List (List Nat)) (k : Nat) : Rp Nat := fun p v G => ∃ S x, StopsL (ways n r L t p) (t.length + 1 - k) S ∧ S.head? = some x ∧ rT rN x v G
instance {n r : Nat} {L : List Lk} {t : List (List Nat)} {k : Nat} : Mn (rFirst n r L t k) := ⟨fun s ⟨S, x, h1, h2, h3⟩ => ⟨S, x, h1, h2, Mn.mono s h3⟩⟩
/-- the first of all places' -/
def IsLeast (n r : Nat) (L : List Lk) (t : List (List Nat)) (k : Nat) (x : List Nat) : Prop := ∃ p S, p < n ∧ p ≠ r ∧ StopsL (ways n r L t p) (t.length + 1 - k) S ∧ S.head? = some x ∧
  ∀ p' S' x', p' < n → p' ≠ r → StopsL (ways n r L t p') (t.length + 1 - k) S' → S'.head? = some x' → HT.lexLt (keyN x') (keyN x) = false
theorem stops_ne {n r : Nat} {L : List Lk} {t : List (List Nat)} {k p : Nat} {S : List (List Nat)} (ok : PlanOk n r L t k) (hp : p < n) (hpr : p ≠ r) (h : StopsL (ways n r L t p) (t.length + 1 - k) S) : ∃ x S', S = x :: S' := by
  have h1 : raw (ways n r L t p) (t.length + 1 - k) ≠ [] := raw_ne (by rw [List.length_map]; have := ok.k1; omega) fun w hw => by
    obtain ⟨y, hy, rfl⟩ := List.mem_map.mp hw
    exact way_ne (ok.tree y hy).isT hp hpr
  cases S with
  | nil => exact absurd h.perm.symm.eq_nil h1
  | cons x S' => exact ⟨x, S', rfl⟩
theorem other {n r : Nat} (h2 : 2 ≤ n) : ∃ p, p < n ∧ p ≠ r := by
  by_cases h : r = 0
  · exact ⟨1, by omega, by omega⟩
  · exact ⟨0, by omega, by omega⟩
abbrev plcs (n r : Nat) : List Nat := (List.range n).filter fun p => !decide (p = r)
theorem plcs_mem {n r p : Nat} : p ∈ plcs n r ↔ p < n ∧ p ≠ r := by
  rw [List.mem_filter, List.mem_range]; simp
def sp_least (K : PySem.W.Frag) : L2.Sp := fun vs H Q E => ∃ (n r : Nat) (L : List Lk) (t : List (List Nat)) (k : Nat) (v : V) (G : Hp), vs = [v] ∧ Same G H ∧ PlanP K n r L t k v G ∧ PlanOk n r L t k ∧
  ((∃ p, p < n ∧ p ≠ r ∧ 20000 < prN n r L t p) → Rsd K H E) ∧ ((∀ p, p < n → p ≠ r → prN n r L t p ≤ 20000) → ∀ (G' H' : Hp) (f : V) (x : List Nat), Xt Pu G H G' H' → IsLeast n r L t k x → rT rN x f G' → Q f H')
abbrev N_least_stop : List Str := ["plan", "places", "place"]
theorem sc_least_stop : FnScope N_least_stop ["plan"] (defScope (topS 54)) := ⟨rfl, rfl, rfl, by decide +kernel, rfl, by decide +kernel, by decide +kernel⟩
theorem ok_least_stop (T : Txt K mg) : KeepsX P w K mg base 10 "least_stop" ["plan"] (sp_least K) := by
  have G_check_plan := ok_check_plan (P := P) (w := w) (base := base) T
  have G_too_many_stops := ok_too_many_stops (P := P) (w := w) (base := base) T
  have G_stops_of := ok_stops_of (P := P) (w := w) (base := base) T
  obtain ⟨fdT, FTM, BTM⟩ := ok_TM (P := P) (w := w) (base := base) T
  refine T.d_least_stop.keepsX sc_least_stop (fun _ _ _ _ _ _ us hl => match us, hl with | [_], _ => rfl) (fun vs H Q E h => ?_) (fun cdv A outer s H vs Q E hr h => ?_)
  · obtain ⟨n, r, L, t, k', v, G, rfl, gh, N, ok, kr, k⟩ := h; rfl
  · have hu := hu_of hr
    obtain ⟨n, r, L, t, k', v, G, rfl, gh, N, ok, kr, k⟩ := h
    refine ⟨_, (pss_cons (ps_expr (pcall G_check_plan (hr.mono (by decide)) rfl (pa_cons (pv 0) pa_nil)))
      (pss_cons (ps_setLc (i := 1) (own := [("place", 2)]) (g := gName 2) (by rfl) sc_least_stop.nd rfl rfl (sw_true rfl rfl rfl (by decide +kernel)) (pi_range1 (by rfl) T.b_range (pa_cons (pe_fld (pe_fld (pv 0) rfl) rfl) pa_nil)) (blkOk_by (N := N_least_stop) (sc := defScope (topS 54)) (by decide +kernel)) (fun _ _ _ _ _ => pg_name (i := 2) sc_least_stop.nd rfl (Or.inl rfl)) (fun _ _ _ _ _ => (pts_one (pt_cmpR op_ne (pv 2) (pe_fldK (K := K) (pe_fldK (K := K) (pv 0) rfl) rfl) (nomark _)))) (fun _ _ _ _ _ => (pv 2)))
      (pss_cons (ps_if (pt_val (pe_callB (cr_any rfl) (by rfl) T.b_any (by decide +kernel) (pa_cons (pe_lc (own := [("place", 2)]) (g := gName 2) (tt := tYes) (by rfl) sc_least_stop.nd (pi_list (pv 1)) (blkOk_by (N := N_least_stop) (sc := defScope (topS 54)) (by decide +kernel)) (fun _ _ _ _ _ => pg_name (i := 2) sc_least_stop.nd rfl (Or.inl rfl)) (fun _ _ _ _ _ => pts_nil) (fun _ _ _ _ _ => (pcall G_too_many_stops (hr.mono (by decide)) rfl (pa_cons (pv 0) (pa_cons (pv 2) pa_nil))))) pa_nil)))
      (pss_one (ps_raise rfl (takes_of rfl rfl rfl rfl) (pmk_oex T.tm T.tm_init T.tm_ty FTM (hr.mono (by decide)) BTM .nil pass0 rfl T.tm_g (pa_cons (pgint T.c_MOST_LISTED rfl) pa_nil))))
      pss_nil)
      (pss_one (ps_ret (pe_callB (SpM.cr_minTT rfl hr.units) (by rfl) T.b_min (by decide +kernel) (pa_cons (pe_lc (own := [("place", 2)]) (g := gName 2) (tt := tYes) (by rfl) sc_least_stop.nd (pi_list (pv 1)) (blkOk_by (N := N_least_stop) (sc := defScope (topS 54)) (by decide +kernel)) (fun _ _ _ _ _ => pg_name (i := 2) sc_least_stop.nd rfl (Or.inl rfl)) (fun _ _ _ _ _ => pts_nil) (fun _ _ _ _ _ => (pe_ix (ix_listK (K := K)) (pcall G_stops_of (hr.mono (by decide)) rfl (pa_cons (pv 0) (pa_cons (pv 2) pa_nil))) pe_int (fun _ _ => rfl)))) pa_nil))))))), ?_⟩
    have N0 := N
    obtain ⟨x, dx, nv, tv, dv, rfl, hx, hn, ht, hd⟩ := N
    obtain ⟨y, dy, lv, rfl, hy, hl⟩ := hn
    have n10 := ok.n10
    have big : (100000 : Nat) ≤ sizeLine := by decide
    have pl : (plcs n r).length ≤ 10 := by
      refine Nat.le_trans (List.length_filter_le _ _) ?_
      rw [List.length_range]; exact n10
    refine ⟨_, rfl, n, r, L, t, k', _, _, rfl, N0.mono gh, ?_⟩
    refine ⟨_, rfl, x, _, _, _, _, rfl, gh _ _ hx, T.plan.cl, T.plan_net, rfl, y, _, _, _, _, rfl, gh _ _ hy, T.net.cl, T.net_many, rfl, (n : Int), rfl, by omega, by omega, fun D hD => lcR n (fun p => if (!decide (p = r)) = true then some p else none) rN gh hD ?_ ?_ ?_⟩
    · have := List.length_filterMap_le (fun p => if (!decide (p = r)) = true then some p else none) (List.range n)
      rw [List.length_range] at this
      omega
    · rintro j p _ G1 H1 hj rfl x1 Q1 Q2 k1 k2
      refine ⟨_, rfl, _, rfl, x, _, _, _, _, rfl, x1.old hx, T.plan.cl, T.plan_net, rfl, y, _, _, _, _, rfl, x1.old hy, T.net.cl, T.net_root, rfl, rfl, _, rfl, ?_⟩
      rw [nV_dec]
      exact ite2 (fun c => ⟨_, rfl, k2 _ (if_pos c) _ _ _ (Xt.refl x1.gh) rfl⟩) (fun c => k1 (if_neg c) _ _ (Xt.refl x1.gh))
    · rintro G1 H1 acc x1 hD1 gD ha
      rw [fm_filter] at ha
      have x2 := x1.freeze hD gD hD1
      have ha2 : All2 rN (upd G1 D (.lst acc)) (plcs n r) acc := All2.mono (same_upd gD) ha
      refine ⟨_, rfl, D, rfl, ⟨_, SqL.of hD1⟩, fun E1 hE1 => lcLm (plcs n r) (fun p => decide (20000 < prN n r L t p)) rN rB x2.gh upd_same ha2 hE1 (by omega) ?_ ?_⟩
      · rintro j p _ G3 H3 hj rfl x3 Q2 k2
        have hpm := plcs_mem.mp (List.mem_of_getElem? hj)
        exact ⟨_, rfl, _, rfl, n, r, L, t, k', p, _, rfl, N0.mono (x2.gg.trans x3.gg |>.trans x3.gh), ok, hpm.1, k2 _ _ _ (Xt.refl x3.gh) rfl⟩
      · rintro G3 H3 acc3 x3 hE3 gE3 ha3
        rw [all2_bool ha3] at hE3
        have x4 := x2.trans x3
        refine ⟨E1, _, rfl, SqL.of hE3, _, rfl, ?_⟩
        rw [any_map]
        refine ite2 (fun c => ?_) (fun c => ?_)
        · obtain ⟨p, hp, hp2⟩ := List.any_eq_true.mp c
          have hpm := plcs_mem.mp hp
          exact tmk _ fun H' d s e => kr ⟨p, hpm.1, hpm.2, of_decide_eq_true hp2⟩ H' d (x4.same.trans s) e
        · have all : ∀ p, p < n → p ≠ r → prN n r L t p ≤ 20000 := fun p h1 h2 => by
            have := List.any_eq_false.mp (Bool.eq_false_iff.mpr c) p (plcs_mem.mpr ⟨h1, h2⟩)
            simpa using this
          have c1 := ok.k1; have c2 := ok.km
          refine ⟨_, rfl, D, rfl, ⟨_, SqL.of (x3.old upd_same)⟩, fun E5 hE5 => lcLm (plcs n r) (fun p => p) rN (rFirst n r L t k') x4.gh (x3.gg _ _ upd_same) (All2.mono x3.gg ha2) hE5 (by omega) ?_ ?_⟩
          · rintro j p _ G5 H5 hj rfl x5 Q2 k2
            have hpm := plcs_mem.mp (List.mem_of_getElem? hj)
            refine ⟨_, rfl, _, rfl, n, r, L, t, k', p, _, G5, rfl, x5.gh, N0.mono (x4.gg.trans x5.gg), ok, hpm.1, all p hpm.1 hpm.2, ?_⟩
            rintro G6 H6 f S x6 hS ⟨_, gf, acc6, hf, ha6⟩
            obtain ⟨z, S', rfl⟩ := stops_ne ok hpm.1 hpm.2 hS
            cases ha6 with
            | cons r6 t6 => exact ⟨f, _, 0, _, rfl, rfl, SqL.of hf, atI_0, k2 _ _ _ x6 ⟨_, z, hS, rfl, r6⟩⟩
          · rintro G5 H5 acc5 x5 hE5' gE5 ha5
            rw [List.map_id'] at ha5
            have key : ∀ u ∈ acc5, ∃ p z S, p < n ∧ p ≠ r ∧ StopsL (ways n r L t p) (t.length + 1 - k') S ∧ S.head? = some z ∧ rT rN z u G5 := fun u hu => by
              obtain ⟨p, hp, S, z, h1, h2, h3⟩ := all2_mem ha5 hu
              exact ⟨p, z, S, (plcs_mem.mp hp).1, (plcs_mem.mp hp).2, h1, h2, h3⟩
            refine ⟨E5, acc5, kOf G5, rfl, SqL.of hE5', ?_, ?_, ?_⟩
            · intro e
              rw [e] at ha5
              have h0 := ha5.len
              obtain ⟨p, h1, h2⟩ := other (r := r) ok.n2
              have := List.length_pos_of_mem (plcs_mem.mpr ⟨h1, h2⟩)
              rw [List.length_nil] at h0
              omega
            · intro u hu
              obtain ⟨p, z, S, _, _, _, _, h3⟩ := key u hu
              rw [kOf_eq h3]
              obtain ⟨lp, rfl, hlp⟩ := rT_nat h3
              rw [map_nV] at hlp
              exact ⟨lp, rfl, SqT.of (x5.gh _ _ hlp)⟩
            · intro u hu hmin
              obtain ⟨p, z, S, h1, h2, h3, h4, h5⟩ := key u hu
              refine k all _ _ u z (x4.trans x5) ⟨p, S, h1, h2, h3, h4, ?_⟩ h5
              intro p' S' x' h1' h2' h3' h4'
              obtain ⟨v', hv', S'', x'', q1, q2, q3⟩ := all2_memL ha5 (plcs_mem.mpr ⟨h1', h2'⟩)
              have e := hmin v' hv'
              rw [kOf_eq h5, kOf_eq q3] at e
              rw [h3'.uniq q1] at h4'
              rw [h4'] at q2
              rw [Option.some.inj q2]
              exact e
end
end Sp
end

section
set_option Elab.async false
set_option linter.all false
set_option maxRecDepth 100000
set_option maxHeartbeats 4000000
/-! Sparetrees: the law's draws. -/
namespace Sp
open PySem PySem.Spec PyProof.Rows L2
/-- the bag at b: its cells stay, the rest changes -/
structure Bag (b : Addr) (G H : Hp) : Prop where
  gb : G b = none
  ex : ∃ (c : Addr) (a r t : Int) (cs : List Int), H b = some (.lst [.ref c, .int a, .int r, .int t]) ∧ G c = some (.lst (cs.map V.int)) ∧ cs.length ≤ 63 ∧ 0 ≤ a ∧ 0 ≤ r
abbrev Bg (b : Addr) : Addr → Prop := fun x => x = b
theorem Bag.ne {b : Addr} {G H : Hp} (B : Bag b G H) : H b ≠ none := by
  obtain ⟨c, a, r, t, cs, h, _⟩ := B.ex
  rw [h]; simp
theorem Bag.pu {b : Addr} {G H G' H' : Hp} (B : Bag b G H) (x : Xt Pu G H G' H') : Bag b G' H' := by
  have gb := x.fr b B.ne B.gb
  obtain ⟨c, a, r, t, cs, h, h1, h2⟩ := B.ex
  exact ⟨gb, c, a, r, t, cs, x.hh _ _ (fun z => z) h, x.gg _ _ h1, h2⟩
section
variable {P : Program} {w : World} {K : PySem.W.Frag} {mg : Str → Option Value} {base : Heap}
def sp_mixed : L2.Sp := fun vs H Q _ => ∃ c t : Int, vs = [.int c, .int t] ∧ ∀ z : Int, 0 ≤ z → Q (.int z) H
abbrev N_mixed : List Str := ["_law_cell", "_law_turn", "_law_number"]
theorem sc_mixed : FnScope N_mixed ["_law_cell", "_law_turn"] (defScope (topS 56)) := ⟨rfl, rfl, rfl, by decide +kernel, rfl, by decide +kernel, by decide +kernel⟩
theorem ok_mixed (T : Txt K mg) : Keeps P w K mg base 1 "_law_mixed" ["_law_cell", "_law_turn"] (sp_mixed) := by
  refine T.d_mixed.keeps sc_mixed (fun _ _ _ _ _ _ us hl => match us, hl with | [_, _], _ => rfl) (fun vs H Q E h => ?_) (fun cdv A outer s H vs Q E hr h => ?_)
  · obtain ⟨c, t, rfl, k⟩ := h; rfl
  · have hu := hu_of hr
    obtain ⟨c, t, rfl, k⟩ := h
    refine ⟨_, (pss_cons (ps_set (i := 2) sc_mixed.nd rfl (Or.inl rfl) (pe_op op_mod (pe_op op_mul (pe_op op_add (pe_op op_add (pe_op op_mod (pe_callTy call_int1 (by rfl) T.b_int (by decide +kernel) (pa_cons (pv 0) pa_nil)) pe_int) (pe_op op_mul pe_int (pv 1))) pe_int) pe_int) pe_int))
      (pss_cons (ps_set (i := 2) sc_mixed.nd rfl (Or.inl rfl) (pe_op op_mod (pe_op op_mul (pv 2) (pe_op op_add (pe_op op_fdiv (pv 2) pe_int) pe_int)) pe_int))
      (pss_one (ps_ret (pe_op op_fdiv (pe_op op_mod (pe_op op_mul (pv 2) (pe_op op_add (pe_op op_fdiv (pv 2) pe_int) pe_int)) pe_int) pe_int))))), ?_⟩
    have M : (0 : Int) < 2147483647 := by decide
    have M2 : (0 : Int) < 2147483399 := by decide
    refine ⟨_, rfl, .inl ⟨_, rfl, _, _, rfl, rfl, M, ?_⟩⟩
    refine ⟨_, rfl, _, _, rfl, rfl, .inl ⟨by decide, by decide⟩, _, _, rfl, rfl, _, _, rfl, rfl, _, _, rfl, rfl, .inr ⟨by decide, by decide⟩, _, _, rfl, rfl, M, ?_⟩
    have h0 := Int.emod_nonneg ((c % 2147483647 + 7919 * t + 1) * 48271) (Int.ne_of_gt M)
    have h1 := Int.emod_lt_of_pos ((c % 2147483647 + 7919 * t + 1) * 48271) M
    generalize (c % 2147483647 + 7919 * t + 1) * 48271 % 2147483647 = u at h0 h1 ⊢
    refine ⟨_, rfl, _, rfl, _, _, rfl, rfl, ⟨by decide, by decide⟩, _, _, rfl, rfl, _, _, rfl, rfl, .inl ⟨by omega, by omega⟩, _, _, rfl, rfl, M, ?_⟩
    have h2 := Int.emod_nonneg (u * (u / 1009 + 69621)) (Int.ne_of_gt M)
    have h3 := Int.emod_lt_of_pos (u * (u / 1009 + 69621)) M
    generalize u * (u / 1009 + 69621) % 2147483647 = y at h2 h3 ⊢
    refine ⟨_, rfl, _, rfl, _, _, rfl, rfl, ⟨by decide, by decide⟩, _, _, rfl, rfl, _, _, rfl, rfl, .inl ⟨by omega, by omega⟩, _, _, rfl, rfl, M2, _, _, rfl, rfl, ⟨by decide, by decide⟩, ?_⟩
    exact k _ (Int.ediv_nonneg (Int.emod_nonneg _ (Int.ne_of_gt M2)) (by decide))
def sp_draw : L2.Sp := fun vs H Q _ => ∃ (b : Addr) (m : Nat) (G : Hp), vs = [.ref b, nV m] ∧ Same G H ∧ Bag b G H ∧ 0 < m ∧ m < 1000000 ∧ ∀ (H' : Hp) (d : Nat), Xt (Bg b) G H G H' → Bag b G H' → d < m → Q (nV d) H'
abbrev N_draw : List Str := ["_law_bag_here", "_law_many", "_law_found", "_law_cells", "_law_at", "_law_cell"]
theorem sc_draw : FnScope N_draw ["_law_bag_here", "_law_many"] (defScope (topS 58)) := ⟨rfl, rfl, rfl, by decide +kernel, rfl, by decide +kernel, by decide +kernel⟩
theorem ok_draw (T : Txt K mg) : Keeps P w K mg base 2 "_law_draw" ["_law_bag_here", "_law_many"] (sp_draw) := by
  have G_mixed := ok_mixed (P := P) (w := w) (base := base) T
  refine T.d_draw.keeps sc_draw (fun _ _ _ _ _ _ us hl => match us, hl with | [_, _], _ => rfl) (fun vs H Q E h => ?_) (fun cdv A outer s H vs Q E hr h => ?_)
  · obtain ⟨b, m, G, rfl, gh, B, hm, hm2, k⟩ := h; rfl
  · have hu := hu_of hr
    obtain ⟨b, m, G, rfl, gh, B, hm, hm2, k⟩ := h
    refine ⟨_, (pss_cons (ps_asg (pe_op op_add (pe_ix ix_list (pv 0) pe_int (fun _ _ => rfl)) pe_int) (pg_sub (pv 0) pe_int set_list))
      (pss_cons (ps_if (pt_cmpR op_gt (pe_ix ix_list (pv 0) pe_int (fun _ _ => rfl)) pe_int (nomark _))
      (pss_cons (ps_set (i := 2) sc_draw.nd rfl (Or.inl rfl) (pe_op op_mod (pe_callTy call_int1 (by rfl) T.b_int (by decide +kernel) (pa_cons (pe_ix ix_list (pv 0) pe_int (fun _ _ => rfl)) pa_nil)) (pv 1)))
        (pss_cons (ps_asg (pe_op op_fdiv (pe_ix ix_list (pv 0) pe_int (fun _ _ => rfl)) (pv 1)) (pg_sub (pv 0) pe_int set_list))
        (pss_one (ps_ret (pv 2)))))
      pss_nil)
      (pss_cons (ps_set (i := 3) sc_draw.nd rfl (Or.inl rfl) (pe_ix ix_list (pv 0) pe_int (fun _ _ => rfl)))
      (pss_cons (ps_if (pt_cmpR op_eq (pe_callB call_len_seq (by rfl) T.b_len (by decide +kernel) (pa_cons (pv 3) pa_nil)) pe_int (nomark _))
      (pss_one (ps_ret (pe_op op_mod (pcall G_mixed (hr.mono (by decide)) rfl (pa_cons pe_int (pa_cons (pe_ix ix_list (pv 0) pe_int (fun _ _ => rfl)) pa_nil))) (pv 1))))
      pss_nil)
      (pss_cons (ps_set (i := 4) sc_draw.nd rfl (Or.inl rfl) (pe_ix ix_list (pv 0) pe_int (fun _ _ => rfl)))
      (pss_cons (ps_asg (pe_op op_add (pv 4) pe_int) (pg_sub (pv 0) pe_int set_list))
      (pss_cons (ps_set (i := 5) sc_draw.nd rfl (Or.inl rfl) (pe_ix ix_list (pv 3) (pe_op op_mod (pe_callTy call_int1 (by rfl) T.b_int (by decide +kernel) (pa_cons (pv 4) pa_nil)) (pe_callB call_len_seq (by rfl) T.b_len (by decide +kernel) (pa_cons (pv 3) pa_nil))) (fun _ _ => rfl)))
      (pss_cons (ps_if (PW.pt (pw_and (pt_cmpR op_lt (pv 4) (pe_callB call_len_seq (by rfl) T.b_len (by decide +kernel) (pa_cons (pv 3) pa_nil)) (nomark _)) (pw_and1 (pt_cmpR op_ge (pe_callB call_abs (by rfl) T.b_abs (by decide +kernel) (pa_cons (pv 5) pa_nil)) (pe_op op_pow pe_int pe_int) (nomark _)))))
      (pss_cons (ps_asg (pe_op op_fdiv (pe_callB call_abs (by rfl) T.b_abs (by decide +kernel) (pa_cons (pv 5) pa_nil)) (pv 1)) (pg_sub (pv 0) pe_int set_list))
        (pss_one (ps_ret (pe_op op_mod (pe_callTy call_int1 (by rfl) T.b_int (by decide +kernel) (pa_cons (pe_callB call_abs (by rfl) T.b_abs (by decide +kernel) (pa_cons (pv 5) pa_nil)) pa_nil)) (pv 1)))))
      pss_nil)
      (pss_one (ps_ret (pe_op op_mod (pcall G_mixed (hr.mono (by decide)) rfl (pa_cons (pv 5) (pa_cons (pe_ix ix_list (pv 0) pe_int (fun _ _ => rfl)) pa_nil))) (pv 1)))))))))))), ?_⟩
    obtain ⟨gb, c, a, r, t, cs, hb, hc, hcl, ha, hr0⟩ := B
    have x0 : Xt (Bg b) G H G H := Xt.refl gh
    have x1 := x0.mut (.inr rfl) gb (.lst [.ref c, .int a, .int r, .int (t + 1)])
    have fin : ∀ (H' : Hp) (z : Int) (a' r' t' : Int), 0 ≤ z → z < m → Xt (Bg b) G H G H' → H' b = some (.lst [.ref c, .int a', .int r', .int t']) → 0 ≤ a' → 0 ≤ r' → Q (.int z) H' := by
      intro H' z a' r' t' h1 h2 x h3 h4 h5
      have e : (z : Int) = ((z.toNat : Nat) : Int) := (Int.toNat_of_nonneg h1).symm
      rw [e]
      exact k H' z.toNat x ⟨gb, c, a', r', t', cs, h3, hc, hcl, h4, h5⟩ (by omega)
    refine ⟨_, rfl, b, _, _, _, rfl, rfl, SqL.of hb, rfl, _, _, rfl, rfl, ?_⟩
    refine ⟨_, rfl, b, _, _, _, rfl, rfl, hb, rfl, ?_⟩
    refine ⟨_, rfl, b, _, _, _, rfl, rfl, SqL.of upd_same, rfl, _, _, rfl, rfl, _, rfl, ?_⟩
    have mp : (0 : Int) < (m : Int) := by omega
    have md : ∀ z : Int, 0 ≤ z % (m : Int) ∧ z % (m : Int) < m := fun z => ⟨Int.emod_nonneg _ (Int.ne_of_gt mp), Int.emod_lt_of_pos _ mp⟩
    refine ite2 (fun q => ?_) (fun q => ?_)
    · refine ⟨_, rfl, b, _, _, _, rfl, rfl, SqL.of upd_same, rfl, .inl ⟨_, rfl, _, rfl, _, _, rfl, rfl, mp, ?_⟩⟩
      refine ⟨_, rfl, b, _, _, _, rfl, rfl, SqL.of upd_same, rfl, _, rfl, _, _, rfl, rfl, ⟨mp, by show (m : Int) < 1073741824; omega⟩, ?_⟩
      refine ⟨_, rfl, b, _, _, _, rfl, rfl, upd_same, rfl, ?_⟩
      refine ⟨_, rfl, ?_⟩
      exact fin _ _ a (r / m) (t + 1) (md r).1 (md r).2 (x1.mut (.inr rfl) gb _) (by rw [upd_same]; rfl) ha (Int.ediv_nonneg hr0 (Int.le_of_lt mp))
    · refine ⟨_, rfl, b, _, _, _, rfl, rfl, SqL.of upd_same, rfl, ?_⟩
      have hc1 : (upd H b (.lst [.ref c, .int a, .int r, .int (t + 1)])) c = some (.lst (cs.map V.int)) := x1.gh _ _ hc
      refine ⟨_, rfl, c, _, rfl, .inl (SqL.of hc1), rfl, _, rfl, ?_⟩
      refine ite2 (fun q2 => ?_) (fun q2 => ?_)
      · refine ⟨_, rfl, b, _, _, _, rfl, rfl, SqL.of upd_same, rfl, 0, t + 1, rfl, fun z hz => ?_⟩
        refine ⟨_, rfl, _, _, rfl, rfl, mp, ?_⟩
        exact fin _ _ a r (t + 1) (md z).1 (md z).2 x1 (by rw [upd_same]; rfl) ha hr0
      · have hcs : 0 < cs.length := by
          cases cs with
          | nil => exact absurd (by rfl) q2
          | cons _ _ => exact Nat.succ_pos _
        have lp : (0 : Int) < (((cs.map V.int).length : Nat) : Int) := by rw [List.length_map]; omega
        refine ⟨_, rfl, b, _, _, _, rfl, rfl, SqL.of upd_same, rfl, ?_⟩
        refine ⟨_, rfl, _, _, rfl, rfl, ?_⟩
        refine ⟨_, rfl, b, _, _, _, rfl, rfl, upd_same, rfl, ?_⟩
        have x2 := x1.mut (.inr rfl) gb (.lst [.ref c, .int (a + 1), .int r, .int (t + 1)])
        have hc2 := x2.gh _ _ hc
        have hi0 := Int.emod_nonneg a (Int.ne_of_gt lp)
        have hi1 := Int.emod_lt_of_pos a lp
        obtain ⟨j, hj⟩ : ∃ j : Nat, a % (((cs.map V.int).length : Nat) : Int) = (j : Int) := ⟨_, (Int.toNat_of_nonneg hi0).symm⟩
        have hjl : j < cs.length := by rw [hj, List.length_map] at hi1; omega
        have hcj : (cs.map V.int)[j]? = some (.int cs[j]) := by rw [List.getElem?_map, List.getElem?_eq_getElem hjl]; rfl
        refine ⟨_, rfl, _, rfl, .inl ⟨_, rfl, _, rfl, c, _, rfl, .inl (SqL.of hc2), _, _, rfl, rfl, lp, c, _, _, .int cs[j], rfl, rfl, SqL.of hc2, ?_, ?_⟩⟩
        · show atI (cs.map V.int) (a % (((cs.map V.int).length : Nat) : Int)) = _
          rw [hj]; exact atI_nat hcj
        refine ⟨_, rfl, _, rfl, c, _, rfl, .inl (SqL.of hc2), _, _, rfl, rfl, _, rfl, ?_⟩
        have last : ∀ H2, Xt (Bg b) G H G H2 → H2 b = some (.lst [.ref c, .int (a + 1), .int r, .int (t + 1)]) → tRet (tOp (rI (fun _ j => 0 < j) fun i j => .int (i % j)) (tCall sp_mixed [] E0 (tCons (tVar 5) (tCons (tOp (rIxL K) (tVar 0) (tC (.int 3))) tNil))) (tVar 1)) { nx := fun _ H' => Q .non H', rt := Q } [some (.ref b), some (nV m), none, some (.ref c), some (.int a), some (.int cs[j])] H2 := by
          intro H2 x3 h3
          refine ⟨_, rfl, _, rfl, b, _, _, _, rfl, rfl, SqL.of h3, rfl, cs[j], t + 1, rfl, fun z hz => ?_⟩
          refine ⟨_, rfl, _, _, rfl, rfl, mp, ?_⟩
          exact fin _ _ (a + 1) r (t + 1) (md z).1 (md z).2 x3 h3 (by omega) hr0
        refine ite2 (fun q3 => ?_) (fun q3 => ?_)
        · refine ⟨_, rfl, _, rfl, ?_⟩
          refine ⟨_, _, rfl, rfl, ⟨by decide, by decide, by decide⟩, _, _, rfl, rfl, _, rfl, ?_⟩
          refine ite2 (fun q4 => ?_) (fun q4 => ?_)
          · have an : 0 ≤ (if cs[j] < 0 then -cs[j] else cs[j]) := by split <;> omega
            refine ⟨_, rfl, _, rfl, _, rfl, _, _, rfl, rfl, ⟨mp, by show (m : Int) < 1073741824; omega⟩, ?_⟩
            refine ⟨_, rfl, b, _, _, _, rfl, rfl, upd_same, rfl, ?_⟩
            refine ⟨_, rfl, _, rfl, .inl ⟨_, rfl, _, rfl, _, _, rfl, rfl, mp, ?_⟩⟩
            exact fin _ _ (a + 1) _ (t + 1) (md _).1 (md _).2 (x2.mut (.inr rfl) gb _) (by rw [upd_same]; rfl) (by omega) (Int.ediv_nonneg an (Int.le_of_lt mp))
          · exact last _ x2 (by rw [upd_same]; rfl)
        · exact last _ x2 (by rw [upd_same]; rfl)
theorem ints_all2 {G : Hp} : ∀ ns : List Int, All2 rZ G ns (ns.map V.int)
  | [] => .nil
  | n :: ns => .cons rfl (ints_all2 ns)
theorem all2_ints {G : Hp} : ∀ {ns : List Int} {vs : List V}, All2 rZ G ns vs → vs = ns.map V.int
  | _, _, .nil => rfl
  | _, _, .cons r t => by rw [all2_ints t]; rw [show _ = V.int _ from r]; rfl
def sp_bag (K : PySem.W.Frag) : L2.Sp := fun vs H Q _ => ∃ (a : Addr) (ns : List Int) (G : Hp), vs = [.ref a] ∧ SqL K H a (ns.map V.int) ∧ ns.length ≤ 63 ∧ Same G H ∧ ∀ (G' H' : Hp) (b : Addr), Xt Pu G H G' H' → Bag b G' H' → Q (.ref b) H'
abbrev N_bag : List Str := ["_law_script", "_law_cell"]
theorem sc_bag : FnScope N_bag ["_law_script"] (defScope (topS 57)) := ⟨rfl, rfl, rfl, by decide +kernel, rfl, by decide +kernel, by decide +kernel⟩
theorem ok_bag (T : Txt K mg) : Keeps P w K mg base 1 "_law_bag" ["_law_script"] (sp_bag K) := by
  refine T.d_bag.keeps sc_bag (fun _ _ _ _ _ _ us hl => match us, hl with | [_], _ => rfl) (fun vs H Q E h => ?_) (fun cdv A outer s H vs Q E hr h => ?_)
  · obtain ⟨a, ns, G, rfl, ha, hl, gh, k⟩ := h; rfl
  · have hu := hu_of hr
    obtain ⟨a, ns, G, rfl, ha, hl, gh, k⟩ := h
    refine ⟨_, (pss_one (ps_ret (pe_lst (pa_cons (pe_lc (own := [("_law_cell", 1)]) (g := gName 1) (tt := tYes) (by rfl) sc_bag.nd (pi_list (pe_slice sl_list (pv 0) po_none (po_some pe_int))) (blkOk_by (N := N_bag) (sc := defScope (topS 57)) (by decide +kernel)) (fun _ _ _ _ _ => pg_name (i := 1) sc_bag.nd rfl (Or.inl rfl)) (fun _ _ _ _ _ => pts_nil) (fun _ _ _ _ _ => (pe_callTy call_int1 (by rfl) T.b_int (by decide +kernel) (pa_cons (pv 1) pa_nil)))) (pa_cons pe_int (pa_cons pe_int (pa_cons pe_int pa_nil))))))), ?_⟩
    refine ⟨_, rfl, 63, rfl, a, _, rfl, ha, fun p hp => ?_⟩
    obtain ⟨i, j, e⟩ : ∃ i j, cutV (ns.map V.int) none (some 63) = (((ns.drop i).take j)).map V.int := ⟨_, _, by unfold cutV; rw [List.map_take, List.map_drop]⟩
    rw [e]
    have hl2 : ((ns.drop i).take j).length ≤ 63 := by rw [List.length_take, List.length_drop]; omega
    generalize (ns.drop i).take j = cs at hl2 ⊢
    have x1 := (Xt.refl (m := Pu) gh).new hp (.lst (cs.map V.int))
    refine ⟨p, rfl, ⟨_, SqL.of upd_same⟩, fun D hD => lcLm cs (fun z => z) rZ rZ x1.gh upd_same (ints_all2 cs) hD (Nat.lt_of_le_of_lt hl2 (by decide)) ?_ ?_⟩
    · rintro j z _ G1 H1 hz rfl x2 Q2 k2
      exact ⟨_, rfl, .inl ⟨_, rfl, k2 _ _ _ (Xt.refl x2.gh) rfl⟩⟩
    · rintro G1 H1 acc x2 hD1 gD hacc
      rw [List.map_id'] at hacc
      have e2 := all2_ints hacc
      subst e2
      have x3 := x1.trans (x2.freeze hD gD hD1)
      refine ⟨by show 4 ≤ _; decide, fun b hb => ?_⟩
      exact k _ _ b (x3.newM hb _) ⟨x3.gnone hb, D, 0, 0, 0, cs, upd_same, upd_same, hl2, by decide, by decide⟩
end
end Sp
end

section
set_option Elab.async false
set_option linter.all false
set_option maxRecDepth 100000
set_option maxHeartbeats 4000000
/-! Sparetrees: the law's trees. -/
namespace Sp
open PySem PySem.Spec PyProof.Rows L2
theorem ixN_nat {n j : Nat} (h : j < n) : ixN n (j : Int) = some j := by
  unfold ixN
  rw [if_pos (by omega), if_pos (by omega)]
  simp
theorem seq_nat {n j : Nat} (h : j < n) : seqIndex? (j : Int) n = some j := (ixN_seq (ixN_nat h)).1
theorem Bag.upd {b p : Addr} {G H : Hp} {o : HO} (B : Bag b G H) (h : p ≠ b) : Bag b G (upd H p o) := by
  obtain ⟨gb, c, a, r, t, cs, hb, h1⟩ := B
  exact ⟨gb, c, a, r, t, cs, by rw [upd_ne (fun z => h z.symm)]; exact hb, h1⟩
theorem Bag.new {b p : Addr} {G H : Hp} {o : HO} (B : Bag b G H) (h : H p = none) : Bag b G (L2.upd H p o) := B.upd fun z => B.ne (z ▸ h)
theorem Bag.newG {b p : Addr} {G H : Hp} {o : HO} (B : Bag b G H) (h : H p = none) (hg : G p = none) : Bag b (L2.upd G p o) (L2.upd H p o) := by
  have hpb : p ≠ b := fun z => B.ne (z ▸ h)
  obtain ⟨gb, c, a, r, t, cs, hb, h1, h2⟩ := B
  refine ⟨by rw [upd_ne (fun z => hpb z.symm)]; exact gb, c, a, r, t, cs, by rw [upd_ne (fun z => hpb z.symm)]; exact hb, ?_, h2⟩
  rw [upd_ne (ne_of_none h1 hg)]; exact h1
theorem Bag.frz {b p : Addr} {G H : Hp} {o : HO} (B : Bag b G H) (hpb : p ≠ b) (hg : G p = none) : Bag b (L2.upd G p o) H := by
  obtain ⟨gb, c, a, r, t, cs, hb, h1, h2⟩ := B
  exact ⟨by rw [upd_ne (fun z => hpb z.symm)]; exact gb, c, a, r, t, cs, hb, by rw [upd_ne (ne_of_none h1 hg)]; exact h1, h2⟩
section
variable {P : Program} {w : World} {K : PySem.W.Frag} {mg : Str → Option Value} {base : Heap}
def sp_ltree : L2.Sp := fun vs H Q _ => ∃ (b : Addr) (n r be : Nat) (G : Hp), vs = [.ref b, nV n, nV r, nV be] ∧ Same G H ∧ Bag b G H ∧ r < n ∧ n ≤ 10 ∧
  ∀ (G' H' : Hp) (f : Addr) (ps : List Lk), Xt (Bg b) G H G' H' → Bag b G' H' → (∃ d, Tr n r ps d) → FL (rP rN rN) ps f H G' H' → Q (.ref f) H'
structure TrI (b : Addr) (n r be : Nat) (lp tp fp : Addr) (G H : Hp) (i : Nat) (σ : L2.St) (H1 : Hp) : Prop where
  ex : ∃ (G1 : Hp) (left there : List Nat) (ps : List Lk) (acc : List V) (o7 o8 o9 : Option V), σ = [some (.ref b), some (nV n), some (nV r), some (nV be), some (.ref lp), some (.ref tp), some (.ref fp), o7, o8, o9] ∧ Xt (Bg b) G H G1 H1 ∧ Bag b G1 H1 ∧
    G1 lp = none ∧ H1 lp = some (.lst (left.map nV)) ∧ G1 tp = none ∧ H1 tp = some (.lst (there.map nV)) ∧ G1 fp = none ∧ H1 fp = some (.lst acc) ∧ All2 (rP rN rN) G1 ps acc ∧ Gro n r left there ps ∧ left.length + i = n - 1
abbrev N_ltree : List Str := ["_law_bag_here", "_law_many", "_law_root", "_law_bend", "_law_left", "_law_there", "_law_found", "_law_k", "_law_place", "_law_begin"]
theorem sc_ltree : FnScope N_ltree ["_law_bag_here", "_law_many", "_law_root", "_law_bend"] (defScope (topS 59)) := ⟨rfl, rfl, rfl, by decide +kernel, rfl, by decide +kernel, by decide +kernel⟩
theorem ok_ltree (T : Txt K mg) : Keeps P w K mg base 3 "_law_tree" ["_law_bag_here", "_law_many", "_law_root", "_law_bend"] (sp_ltree) := by
  have G_draw := ok_draw (P := P) (w := w) (base := base) T
  refine T.d_tree.keeps sc_ltree (fun _ _ _ _ _ _ us hl => match us, hl with | [_, _, _, _], _ => rfl) (fun vs H Q E h => ?_) (fun cdv A outer s H vs Q E hr h => ?_)
  · obtain ⟨b, n, r, be, G, rfl, gh, B, hr0, hn, k⟩ := h; rfl
  · have hu := hu_of hr
    obtain ⟨b, n, r, be, G, rfl, gh, B, hr0, hn, k⟩ := h
    refine ⟨_, (pss_cons (ps_setLc (i := 4) (own := [("_law_place", 8)]) (g := gName 8) (by rfl) sc_ltree.nd rfl rfl (sw_true rfl rfl rfl (by decide +kernel)) (pi_range1 (by rfl) T.b_range (pa_cons (pv 1) pa_nil)) (blkOk_by (N := N_ltree) (sc := defScope (topS 59)) (by decide +kernel)) (fun _ _ _ _ _ => pg_name (i := 8) sc_ltree.nd rfl (Or.inl rfl)) (fun _ _ _ _ _ => (pts_one (pt_cmpR op_ne (pv 8) (pv 2) (nomark _)))) (fun _ _ _ _ _ => (pv 8)))
      (pss_cons (ps_set (i := 5) sc_ltree.nd rfl (Or.inl rfl) (pe_lst (pa_cons (pv 2) pa_nil)))
      (pss_cons (ps_set (i := 6) sc_ltree.nd rfl (Or.inl rfl) (pe_lst pa_nil))
      (pss_cons (ps_for PassesOwn.never rfl (pi_range1 (by rfl) T.b_range (pa_cons (pe_op op_sub (pv 1) pe_int) pa_nil)) (pg_name (i := 7) sc_ltree.nd rfl (Or.inl rfl))
      (pss_cons (ps_set (i := 8) sc_ltree.nd rfl (Or.inl rfl) (pe_bm PySem.F.plainAttrs_list PySem.F.slot_list_pop PySem.F.type_list_pop mt_popAt (pv 4) (pa_cons (pcall G_draw (hr.mono (by decide)) rfl (pa_cons (pv 0) (pa_cons (pe_callB call_len_seq (by rfl) T.b_len (by decide +kernel) (pa_cons (pv 4) pa_nil)) pa_nil))) pa_nil)))
        (pss_cons (ps_set (i := 9) sc_ltree.nd rfl (Or.inl rfl) (pe_ix ix_list (pv 5) (pcall G_draw (hr.mono (by decide)) rfl (pa_cons (pv 0) (pa_cons (pe_callB call_len_seq (by rfl) T.b_len (by decide +kernel) (pa_cons (pv 5) pa_nil)) pa_nil))) (fun _ _ => rfl)))
        (pss_cons (ps_if (pt_cmpR op_lt (pcall G_draw (hr.mono (by decide)) rfl (pa_cons (pv 0) (pa_cons pe_int pa_nil))) (pv 3) (nomark _))
        (pss_one (ps_set (i := 9) sc_ltree.nd rfl (Or.inl rfl) (pe_ix ix_list (pv 5) (pe_un un_neg pe_int) (fun _ _ => rfl))))
        pss_nil)
        (pss_cons (ps_expr (pe_bm PySem.F.plainAttrs_list PySem.F.slot_list_append PySem.F.type_list_append mt_append (pv 6) (pa_cons (pe_tup (pa_cons (pv 9) (pa_cons (pv 8) pa_nil))) pa_nil)))
        (pss_one (ps_expr (pe_bm PySem.F.plainAttrs_list PySem.F.slot_list_append PySem.F.type_list_append mt_append (pv 5) (pa_cons (pv 8) pa_nil)))))))))
      (pss_one (ps_ret (pv 6))))))), ?_⟩
    have big : (100000 : Nat) ≤ sizeLine := by decide
    have x0 : Xt (Bg b) G H G H := Xt.refl gh
    refine ⟨_, rfl, (n : Int), rfl, by omega, by omega, fun lp hlp => lcR n (fun p => if (p != r) = true then some p else none) rN (m := Pu) gh hlp ?_ ?_ ?_⟩
    · have := List.length_filterMap_le (fun p => if (p != r) = true then some p else none) (List.range n)
      rw [List.length_range] at this
      omega
    · rintro j p _ G1 H1 hj rfl x1 Q1 Q2 k1 k2
      refine ⟨_, rfl, _, rfl, rfl, _, rfl, ?_⟩
      rw [nV_dec]
      exact ite2 (fun c => ⟨_, rfl, k2 _ (if_pos c) _ _ _ (Xt.refl x1.gh) rfl⟩) (fun c => k1 (if_neg c) _ _ (Xt.refl x1.gh))
    · rintro G1 H1 acc x1 hl gl ha
      rw [fm_filter] at ha
      rw [all2_nat ha] at hl
      have B1 := B.pu x1
      refine ⟨_, rfl, by show 1 ≤ _; omega, fun tp htp => ?_⟩
      have x2 := x1.newM htp (.lst [nV r])
      have B2 : Bag b G1 _ := B1.new (o := .lst [nV r]) htp
      refine ⟨by show 0 ≤ _; omega, fun fp hfp => ?_⟩
      have x3 := x2.newM hfp (.lst [])
      have B3 := B2.new (o := .lst []) hfp
      have lt : lp ≠ tp := ne_of_none hl htp
      have lf : lp ≠ fp := fun z => by rw [← z, upd_ne lt, hl] at hfp; cases hfp
      have tf : tp ≠ fp := fun z => by rw [← z, upd_same] at hfp; cases hfp
      have lb : lp ≠ b := fun z => B.ne (z ▸ hlp)
      have tb : tp ≠ b := fun z => B1.ne (z ▸ htp)
      have fb : fp ≠ b := fun z => B2.ne (z ▸ hfp)
      have htp0 := x1.hnone htp
      have hfp0 := x2.hnone hfp
      refine ⟨_, rfl, _, _, rfl, rfl, (n : Int) - 1, rfl, by omega, by omega, ?_⟩
      rw [show ((n : Int) - 1).toNat = n - 1 by omega]
      refine for_range (lo := 0) (n := n - 1) (fun i σ H1 => TrI b n r be lp tp fp G H i σ H1) ?_ ?_ ?_
      · refine ⟨G1, _, [r], [], [], _, _, _, rfl, x3.pu, B3, gl, ?_, x1.gnone htp, ?_, x2.gnone hfp, upd_same, .nil, gro_start hr0, ?_⟩
        · rw [upd_ne lf, upd_ne lt]; exact hl
        · rw [upd_ne tf]; exact upd_same
        · have := (gro_start hr0).perm.length_eq
          rw [List.length_append, List.length_range] at this
          simp only [List.length_singleton] at this
          omega
      · rintro i σ H4 hi ⟨G4, left, there, ps, acc4, o7, o8, o9, rfl, x4, B4, gl4, hl4, gt4, ht4, gf4, hf4, ha4, gro, hlen⟩
        have htl : 0 < there.length := by rw [gro.there_eq]; exact Nat.succ_pos _
        have htn : there.length ≤ n := by
          have := gro.perm.length_eq
          rw [List.length_append, List.length_range] at this
          omega
        refine ⟨_, rfl, .inl ⟨rfl, _, SqL.of hl4⟩, _, rfl, _, rfl, lp, _, rfl, .inl (SqL.of hl4), b, left.length, G4, by rw [List.length_map]; rfl, x4.gh, B4, by omega, by omega, fun H5 d x5 B5 hd => ?_⟩
        have hl5 := x5.hh _ _ lb hl4
        have ht5 := x5.hh _ _ tb ht4
        have hf5 := x5.hh _ _ fb hf4
        have hld : (left.map nV)[d]? = some (nV left[d]) := by rw [List.getElem?_map, List.getElem?_eq_getElem hd]; rfl
        refine ⟨lp, _, (d : Int), d, _, rfl, rfl, hl5, by omega, by omega, seq_nat (by rw [List.length_map]; exact hd), hld, ?_⟩
        have x6 := (x4.trans x5).mut (.inl hlp) gl4 (.lst ((left.map nV).eraseIdx d))
        have B6 := B5.upd (o := .lst ((left.map nV).eraseIdx d)) lb
        have ht6 : (upd H5 lp (.lst ((left.map nV).eraseIdx d))) tp = some (.lst (there.map nV)) := by rw [upd_ne lt.symm]; exact ht5
        refine ⟨_, rfl, _, rfl, _, rfl, tp, _, rfl, .inl (SqL.of ht6), b, there.length, G4, by rw [List.length_map]; rfl, x6.gh, B6, htl, by omega, fun H7 d2 x7 B7 hd2 => ?_⟩
        have ht7 := x7.hh _ _ tb ht6
        have hl7 := x7.hh _ _ lb upd_same
        have hf7 := x7.hh fp _ fb (by rw [upd_ne lf.symm]; exact hf5)
        have htd : (there.map nV)[d2]? = some (nV there[d2]) := by rw [List.getElem?_map, List.getElem?_eq_getElem hd2]; rfl
        refine ⟨tp, _, (d2 : Int), _, rfl, rfl, SqL.of ht7, atI_nat htd, ?_⟩
        have x8 := x6.trans x7
        refine ⟨_, rfl, b, 4, G4, rfl, x8.gh, B7, by decide, by decide, fun H9 d3 x9 B9 hd3 => ?_⟩
        have ht9 := x9.hh _ _ tb ht7
        have hl9 := x9.hh _ _ lb hl7
        have hf9 := x9.hh _ _ fb hf7
        have x10 := x8.trans x9
        -- the rest, from any beginning
        have fin : ∀ bg : Nat, bg ∈ there → tSeq (tDrop (tBM K "list" rAppend (tVar 6) (tCons (tTup (tCons (tVar 9) (tCons (tVar 8) tNil))) tNil))) (tDrop (tBM K "list" rAppend (tVar 5) (tCons (tVar 8) tNil)))
            { nx := fun σ H1 => TrI b n r be lp tp fp G H (i + 1) σ H1, rt := Q, bk := fun σ H1 => False, ct := fun σ H1 => TrI b n r be lp tp fp G H (i + 1) σ H1 } [some (.ref b), some (nV n), some (nV r), some (nV be), some (.ref lp), some (.ref tp), some (.ref fp), some (.int (0 + (i : Int))), some (nV left[d]), some (nV bg)] H9 := by
          intro bg hbg
          have alen := ha4.len
          have plen : ps.length + 1 = there.length := by rw [gro.there_eq, List.length_cons, List.length_map]
          refine ⟨_, rfl, .inl ⟨rfl, _, SqL.of hf9⟩, _, rfl, _, rfl, by show 2 ≤ _; omega, fun u hu => ?_⟩
          have x11 := x10.new hu (.tup [nV bg, nV left[d]])
          have B11 := B9.newG (o := .tup [nV bg, nV left[d]]) hu (x10.gnone hu)
          have uf : fp ≠ u := ne_of_none hf9 hu
          have ut : tp ≠ u := ne_of_none ht9 hu
          have ul : lp ≠ u := ne_of_none hl9 hu
          refine ⟨fp, _, _, rfl, rfl, by rw [upd_ne uf]; exact hf9, by omega, ?_⟩
          have gf11 : (upd G4 u (.tup [nV bg, nV left[d]])) fp = none := by rw [upd_ne uf]; exact gf4
          have gt11 : (upd G4 u (.tup [nV bg, nV left[d]])) tp = none := by rw [upd_ne ut]; exact gt4
          have gl11 : (upd G4 u (.tup [nV bg, nV left[d]])) lp = none := by rw [upd_ne ul]; exact gl4
          have x12 := x11.mut (.inl hfp0) gf11 (.lst (acc4 ++ [.ref u]))
          have ht12 : (upd (upd H9 u (.tup [nV bg, nV left[d]])) fp (.lst (acc4 ++ [.ref u]))) tp = some (.lst (there.map nV)) := by rw [upd_ne tf, upd_ne ut]; exact ht9
          refine ⟨_, rfl, .inl ⟨rfl, _, SqL.of ht12⟩, _, rfl, tp, _, _, rfl, rfl, ht12, by rw [List.length_map]; omega, ?_⟩
          have x13 := x12.mut (.inl htp0) gt11 (.lst (there.map nV ++ [nV left[d]]))
          refine ⟨_, left.eraseIdx d, there ++ [left[d]], ps ++ [(bg, left[d])], acc4 ++ [.ref u], _, _, _, rfl, x13, (B11.upd fb).upd tb, gl11, ?_, gt11, ?_, gf11, ?_, (All2.mono (same_upd (x10.gnone hu)) ha4).app (.one ⟨u, _, _, rfl, upd_same, rfl, rfl⟩), gro_step gro (List.getElem?_eq_getElem hd) hbg, ?_⟩
          · rw [upd_ne lt, upd_ne lf, upd_ne ul, hl9]
            congr 2
            rw [List.eraseIdx_eq_take_drop_succ, List.eraseIdx_eq_take_drop_succ, List.map_append, List.map_take, List.map_drop]
          · rw [upd_same, List.map_append]; rfl
          · rw [upd_ne tf.symm, upd_same]
          · rw [List.length_eraseIdx, if_pos hd]; omega
        refine ⟨_, rfl, _, _, rfl, rfl, _, rfl, ite2 (fun q => ?_) (fun q => ?_)⟩
        · have hne : there ≠ [] := by rintro rfl; cases htl
          have e : there.map nV = (there.dropLast.map nV) ++ [nV (there.getLast hne)] := by
            conv => lhs; rw [← List.dropLast_concat_getLast hne]
            rw [List.map_append]; rfl
          rw [e] at ht9
          refine ⟨_, rfl, _, rfl, tp, _, -1, _, rfl, rfl, SqL.of ht9, atI_last _ _, ?_⟩
          rw [← e] at ht9
          exact fin _ (List.getLast_mem hne)
        · exact fin _ (List.getElem_mem hd2)
      · rintro σ H4 ⟨G4, left, there, ps, acc4, o7, o8, o9, rfl, x4, B4, gl4, hl4, gt4, ht4, gf4, hf4, ha4, gro, hlen⟩
        have e : left = [] := List.length_eq_zero_iff.mp (by omega)
        subst e
        exact ⟨_, rfl, k _ _ fp ps x4 B4 (gro_end gro) ⟨hfp0, gf4, acc4, hf4, ha4⟩⟩
end
end Sp
end

section
set_option Elab.async false
set_option linter.all false
/-! Sparetrees, the plain law: the drawn plan is one. -/
namespace Sp
abbrev Mk1 : Type := Lk × Nat
/-- the places of the mark j -/
def idx (j : Nat) (D : List Mk1) : List Nat := (List.range D.length).filter fun i => (D.getD i ((0, 0), 0)).2 == j
theorem idx_snoc (j : Nat) (D : List Mk1) (x : Mk1) : idx j (D ++ [x]) = idx j D ++ (if x.2 = j then [D.length] else []) := by
  unfold idx
  rw [List.length_append, List.length_singleton, List.range_succ, List.filter_append]
  congr 1
  · refine List.filter_congr fun i hi => ?_
    have := List.mem_range.mp hi
    rw [List.getD_eq_getElem?_getD, List.getD_eq_getElem?_getD, List.getElem?_append_left this]
  · have e : (D ++ [x]).getD D.length ((0, 0), 0) = x := by
      rw [List.getD_eq_getElem?_getD, List.getElem?_append_right (Nat.le_refl _), Nat.sub_self]; rfl
    rw [List.filter_cons, e]
    by_cases h : x.2 = j
    · rw [if_pos h, if_pos (by simpa using h)]; rfl
    · rw [if_neg h, if_neg (by simpa using h)]; rfl
theorem idx_lt {j : Nat} {D : List Mk1} : ∀ i ∈ idx j D, i < D.length := fun i hi => List.mem_range.mp (List.mem_filter.mp hi).1
theorem idx_asc (j : Nat) (D : List Mk1) : (idx j D).Pairwise (· < ·) := List.pairwise_lt_range.sublist List.filter_sublist
theorem idx_links (j : Nat) (D : List Mk1) : (idx j D).map (lk (D.map Prod.fst)) = (D.filter fun x => x.2 == j).map Prod.fst := by
  refine snoc_ind (p := fun D => (idx j D).map (lk (D.map Prod.fst)) = (D.filter fun x => x.2 == j).map Prod.fst) rfl ?_ D
  intro D x ih
  rw [idx_snoc, List.filter_append, List.map_append, List.map_append (f := Prod.fst) (l₁ := D.filter fun x => x.2 == j), ← ih]
  congr 1
  · refine List.map_congr_left fun i hi => ?_
    rw [List.map_append, lk_app (by rw [List.length_map]; exact idx_lt i hi)]
  · by_cases h : x.2 = j
    · rw [if_pos h, List.filter_cons, if_pos (by simpa using h)]
      show [lk ((D ++ [x]).map Prod.fst) D.length] = [x.1]
      rw [lk_of (q := x.1) (by rw [List.getElem?_map, List.getElem?_append_right (Nat.le_refl _), Nat.sub_self]; rfl)]
    · rw [if_neg h, List.filter_cons, if_neg (by simpa using h)]; rfl
/-- the trees' pairs, marked -/
def mk : Nat → List (List Lk) → List Mk1
  | _, [] => []
  | j, t :: ts => t.map (fun q => (q, j)) ++ mk (j + 1) ts
theorem mk_snoc (t : List Lk) : ∀ (ts : List (List Lk)) (j : Nat), mk j (ts ++ [t]) = mk j ts ++ t.map fun q => (q, j + ts.length)
  | [], j => by simp [mk]
  | u :: ts, j => by
    rw [List.cons_append, mk, mk, mk_snoc t ts (j + 1), List.append_assoc, List.length_cons]
    congr 3
    funext q; congr 1; omega
theorem mk_ge : ∀ (ts : List (List Lk)) (j : Nat), ∀ x ∈ mk j ts, j ≤ x.2 ∧ x.2 < j + ts.length ∧ ∃ t ∈ ts, x.1 ∈ t
  | [], _, x, h => by cases h
  | u :: ts, j, x, h => by
    rcases List.mem_append.mp (show x ∈ u.map (fun q => (q, j)) ++ mk (j + 1) ts from h) with h | h
    · obtain ⟨q, hq, rfl⟩ := List.mem_map.mp h
      exact ⟨Nat.le_refl _, by rw [List.length_cons]; show j < _; omega, u, List.mem_cons_self, hq⟩
    · obtain ⟨h1, h2, t, ht, hx⟩ := mk_ge ts (j + 1) x h
      exact ⟨by omega, by rw [List.length_cons]; omega, t, List.mem_cons_of_mem _ ht, hx⟩
theorem mk_filter : ∀ (ts : List (List Lk)) (j i : Nat) (t : List Lk), ts[i]? = some t → ((mk j ts).filter fun x => x.2 == j + i).map Prod.fst = t
  | [], _, _, _, h => by simp at h
  | u :: ts, j, i, t, h => by
    rw [mk, List.filter_append, List.map_append]
    cases i with
    | zero =>
      have e : u = t := by simpa using h
      subst e
      have e1 : (u.map fun q => (q, j)).filter (fun x : Mk1 => x.2 == j + 0) = u.map fun q => (q, j) := List.filter_eq_self.mpr fun x hx => by
        obtain ⟨q, _, rfl⟩ := List.mem_map.mp hx; simp
      have e2 : (mk (j + 1) ts).filter (fun x : Mk1 => x.2 == j + 0) = [] := List.filter_eq_nil_iff.mpr fun x hx => by
        have := (mk_ge ts (j + 1) x hx).1
        simp; omega
      rw [e1, e2, List.map_map]
      rw [show (Prod.fst ∘ fun q : Lk => (q, j)) = id from rfl, List.map_id, List.map_nil, List.append_nil]
    | succ i =>
      have e1 : (u.map fun q => (q, j)).filter (fun x : Mk1 => x.2 == j + (i + 1)) = [] := List.filter_eq_nil_iff.mpr fun x hx => by
        obtain ⟨q, _, rfl⟩ := List.mem_map.mp hx; simp
      rw [e1, show j + (i + 1) = (j + 1) + i by omega, mk_filter ts (j + 1) i t (by simpa using h)]; rfl
theorem mk_len (n : Nat) : ∀ (ts : List (List Lk)) (j : Nat), (∀ t ∈ ts, t.length + 1 = n) → (mk j ts).length = ts.length * (n - 1)
  | [], _, _ => by simp [mk]
  | u :: ts, j, h => by
    rw [mk, List.length_append, List.length_map, mk_len n ts (j + 1) fun t ht => h t (List.mem_cons_of_mem _ ht), List.length_cons, Nat.succ_mul]
    have := h u List.mem_cons_self
    omega
theorem plan_ok {n r k : Nat} {ts : List (List Lk)} {ex : List Lk} {D : List Mk1} (hD : D.Perm (mk 0 ts ++ ex.map fun q => (q, ts.length))) (h2 : 2 ≤ n) (h8 : n ≤ 8) (hr : r < n) (ht : ∀ t ∈ ts, ∃ d, Tr n r t d)
    (he : ∀ q ∈ ex, q.1 < n ∧ q.2 < n ∧ q.1 ≠ q.2) (hel : ex.length ≤ 5) (m1 : 1 ≤ ts.length) (m12 : ts.length ≤ 12) (m40 : ts.length * (n - 1) ≤ 40) (k1 : 1 ≤ k) (k8 : k ≤ 8) (km : k ≤ ts.length) :
    PlanOk n r (D.map Prod.fst) ((List.range ts.length).map fun j => idx j D) k where
  n2 := h2
  n10 := by omega
  rn := hr
  L60 := by
    rw [List.length_map, hD.length_eq, List.length_append, List.length_map, mk_len n ts 0 fun t h => by obtain ⟨d, T⟩ := ht t h; exact T.len]
    omega
  links := fun q hq => by
    obtain ⟨x, hx, rfl⟩ := List.mem_map.mp hq
    rcases List.mem_append.mp (hD.mem_iff.mp hx) with h | h
    · obtain ⟨_, _, t, h1, h2⟩ := mk_ge ts 0 x h
      obtain ⟨d, T⟩ := ht t h1
      refine ⟨T.fst _ h2, (T.snd _ h2).1, fun z => ?_⟩
      have := T.dS _ h2
      rw [z] at this; omega
    · obtain ⟨q', hq', rfl⟩ := List.mem_map.mp h
      exact he q' hq'
  m1 := by rw [List.length_map, List.length_range]; exact m1
  m12 := by rw [List.length_map, List.length_range]; exact m12
  tree := fun x hx => by
    obtain ⟨j, hj, rfl⟩ := List.mem_map.mp hx
    have hj := List.mem_range.mp hj
    refine ⟨?_, idx_asc j D, fun i hi => by rw [List.length_map]; exact idx_lt i hi⟩
    obtain ⟨d, T⟩ := ht ts[j] (List.getElem_mem hj)
    refine ⟨d, ?_⟩
    rw [idx_links]
    refine T.perm ?_
    have h1 := (hD.filter fun x => x.2 == j).map Prod.fst
    refine List.Perm.trans (List.Perm.of_eq ?_) h1.symm
    rw [List.filter_append, List.map_append]
    have e := mk_filter ts 0 j ts[j] (List.getElem?_eq_getElem hj)
    rw [Nat.zero_add] at e
    rw [e]
    have e2 : (ex.map fun q => (q, ts.length)).filter (fun x : Mk1 => x.2 == j) = [] := List.filter_eq_nil_iff.mpr fun x hx => by
      obtain ⟨q, _, rfl⟩ := List.mem_map.mp hx; simp; omega
    rw [e2]; simp
  apart := by
    refine List.pairwise_flatten.mpr ⟨fun l hl => ?_, ?_⟩
    · obtain ⟨j, _, rfl⟩ := List.mem_map.mp hl
      exact (idx_asc j D).imp fun h => Nat.ne_of_lt h
    · rw [List.pairwise_map]
      refine List.nodup_range.imp fun {a b} hab x hx y hy hxy => ?_
      subst hxy
      have h1 := (List.mem_filter.mp hx).2
      have h2 := (List.mem_filter.mp hy).2
      exact hab ((beq_iff_eq.mp h1).symm.trans (beq_iff_eq.mp h2))
  k1 := k1
  k8 := k8
  km := by rw [List.length_map, List.length_range]; exact km
end Sp
end

section
set_option Elab.async false
set_option linter.all false
set_option maxRecDepth 100000
set_option maxHeartbeats 4000000
/-! Sparetrees: the law's plan. -/
namespace Sp
open PySem PySem.Spec PyProof.Rows L2
/-! ### many things stay from now on -/
def frM (G H : Hp) (qs : List Addr) : Hp := fun p => if p ∈ qs then H p else G p
theorem frM_in {G H : Hp} {qs : List Addr} {p : Addr} (h : p ∈ qs) : frM G H qs p = H p := if_pos h
theorem frM_out {G H : Hp} {qs : List Addr} {p : Addr} (h : p ∉ qs) : frM G H qs p = G p := if_neg h
theorem frM_same {G H : Hp} {qs : List Addr} (h : ∀ q ∈ qs, G q = none) : Same G (frM G H qs) := fun p o e => by
  rw [frM_out fun z => by rw [h p z] at e; cases e]; exact e
theorem Xt.frM {m : Addr → Prop} {G0 H0 G H : Hp} {qs : List Addr} (x : Xt m G0 H0 G H) (h : ∀ q ∈ qs, H0 q = none ∧ G q = none) (ht : ∀ q ∈ qs, ∀ ps, H q ≠ some (.tbl ps)) : Xt m G0 H0 (frM G H qs) H where
  gt := fun p ps e => by
    by_cases hp : p ∈ qs
    · rw [frM_in hp] at e; exact absurd e (ht p hp ps)
    · rw [frM_out hp] at e; exact x.gt p ps e
  gg := x.gg.trans (frM_same fun q hq => (h q hq).2)
  gh := fun p o e => by
    by_cases hp : p ∈ qs
    · rw [frM_in hp] at e; exact e
    · rw [frM_out hp] at e; exact x.gh _ _ e
  hh := x.hh
  th := x.th
  fr := fun p e n => by
    rw [frM_out fun z => e (h p z).1]; exact x.fr p e n
theorem Bag.frM {b : Addr} {G H : Hp} {qs : List Addr} (B : Bag b G H) (h : ∀ q ∈ qs, q ≠ b ∧ G q = none) : Bag b (frM G H qs) H := by
  obtain ⟨gb, c, a, r, t, cs, hb, h1, h2⟩ := B
  refine ⟨by rw [frM_out fun z => (h b z).1 rfl]; exact gb, c, a, r, t, cs, hb, ?_, h2⟩
  rw [frM_out fun z => by rw [(h c z).2] at h1; cases h1]; exact h1
/-! ### the drawn plan -/
def DictP (n r : Nat) (L : List Lk) (t : List (List Nat)) (k : Nat) (p : Addr) (G : Hp) : Prop := ∃ lp tp, G p = some (.dK [(.inr "many", nV n), (.inr "root", nV r), (.inr "links", .ref lp), (.inr "trees", .ref tp), (.inr "size", nV k)]) ∧
  rL (rP rN rN) L (.ref lp) G ∧ rL (rL rN) t (.ref tp) G
theorem DictP.mono {n r : Nat} {L : List Lk} {t : List (List Nat)} {k : Nat} {p : Addr} {G G' : Hp} (s : Same G G') : DictP n r L t k p G → DictP n r L t k p G' :=
  fun ⟨lp, tp, h, h1, h2⟩ => ⟨lp, tp, s _ _ h, Mn.mono s h1, Mn.mono s h2⟩
theorem min3_int (a b c : Int) : ∃ z, nuMin3 (.int a) (.int b) (.int c) = some (.int z) ∧ (z = a ∨ z = b ∨ z = c) ∧ z ≤ a ∧ z ≤ b ∧ z ≤ c := by
  have h2 : ∀ x y : Int, nuMin2 (.int x) (.int y) = some (.int (if y < x then y else x)) := fun x y => by
    show (nuLt (.int y) (.int x)).map _ = _
    show (some (decide (y < x))).map _ = _
    by_cases h : y < x <;> simp [h]
  unfold nuMin3
  rw [h2]
  show ∃ z, nuMin2 (.int (if b < a then b else a)) (.int c) = some (.int z) ∧ _
  rw [h2]
  refine ⟨_, rfl, ?_, ?_, ?_, ?_⟩
  · split <;> split <;> simp
  all_goals (split <;> split <;> omega)
section
variable {P : Program} {w : World} {K : PySem.W.Frag} {mg : Str → Option Value} {base : Heap}
abbrev rMk : Rp Mk1 := rP (rP rN rN) rN
def sp_lplan : L2.Sp := fun vs H Q _ => ∃ (b : Addr) (G : Hp), vs = [.ref b, nV 7] ∧ Same G H ∧ Bag b G H ∧
  ∀ (G' H' : Hp) (p : Addr) (n r k : Nat) (L : List Lk) (t : List (List Nat)), Xt (Bg b) G H G' H' → Bag b G' H' → PlanOk n r L t k → n ≤ 8 → DictP n r L t k p G' → Q (.ref p) H'
structure PI1 (b : Addr) (n r be m : Nat) (mp : Addr) (G H : Hp) (i : Nat) (σ : L2.St) (H1 : Hp) : Prop where
  ex : ∃ (G1 : Hp) (ts : List (List Lk)) (acc : List V) (o7 : Option V), σ = [some (.ref b), some (nV 7), some (nV n), some (nV r), some (nV be), some (nV m), some (.ref mp), o7, none, none, none, none, none, none] ∧ Xt (Bg b) G H G1 H1 ∧ Bag b G1 H1 ∧
    G1 mp = none ∧ H1 mp = some (.lst acc) ∧ All2 rMk G1 (mk 0 ts) acc ∧ ts.length = i ∧ ∀ t ∈ ts, ∃ d, Tr n r t d
structure PI2 (b : Addr) (n r be m : Nat) (mp : Addr) (ts : List (List Lk)) (G H : Hp) (i : Nat) (σ : L2.St) (H1 : Hp) : Prop where
  ex : ∃ (G1 : Hp) (ex : List Lk) (acc : List V) (o7 o8 o9 : Option V), σ = [some (.ref b), some (nV 7), some (nV n), some (nV r), some (nV be), some (nV m), some (.ref mp), o7, o8, o9, none, none, none, none] ∧ Xt (Bg b) G H G1 H1 ∧ Bag b G1 H1 ∧
    G1 mp = none ∧ H1 mp = some (.lst acc) ∧ All2 rMk G1 (mk 0 ts ++ ex.map fun q => (q, m)) acc ∧ ex.length = i ∧ ∀ q ∈ ex, q.1 < n ∧ q.2 < n ∧ q.1 ≠ q.2
structure PI3 (b : Addr) (n r be m : Nat) (mp lp tp : Addr) (qs : List Addr) (M0 : List Mk1) (G H G9 : Hp) (i : Nat) (σ : L2.St) (H1 : Hp) : Prop where
  ex : ∃ (D M : List Mk1) (mv la : List V) (o7 o8 o9 o12 : Option V), σ = [some (.ref b), some (nV 7), some (nV n), some (nV r), some (nV be), some (nV m), some (.ref mp), o7, o8, o9, some (.ref lp), some (.ref tp), o12, none] ∧ Xt (Bg b) G H G9 H1 ∧ Bag b G9 H1 ∧
    (D ++ M).Perm M0 ∧ D.length = i ∧ H1 mp = some (.lst mv) ∧ All2 rMk G9 M mv ∧ H1 lp = some (.lst la) ∧ All2 (rP rN rN) G9 (D.map Prod.fst) la ∧ H1 tp = some (.lst (qs.map .ref)) ∧ ∀ (j : Nat) (q : Addr), qs[j]? = some q → H1 q = some (.lst ((idx j D).map nV))
abbrev N_lplan : List Str := ["_law_bag_here", "_law_most", "_law_many", "_law_root", "_law_bend", "_law_count", "_law_marked", "_law_tree_here", "_law_k", "_law_one", "_law_links", "_law_trees", "_law_pair", "_law_size"]
theorem sc_lplan : FnScope N_lplan ["_law_bag_here", "_law_most"] (defScope (topS 60)) := ⟨rfl, rfl, rfl, by decide +kernel, rfl, by decide +kernel, by decide +kernel⟩
theorem ok_lplan (T : Txt K mg) : Keeps P w K mg base 4 "_law_plan" ["_law_bag_here", "_law_most"] (sp_lplan) := by
  have G_draw := ok_draw (P := P) (w := w) (base := base) T
  have G_ltree := ok_ltree (P := P) (w := w) (base := base) T
  refine T.d_plan.keeps sc_lplan (fun _ _ _ _ _ _ us hl => match us, hl with | [_, _], _ => rfl) (fun vs H Q E h => ?_) (fun cdv A outer s H vs Q E hr h => ?_)
  · obtain ⟨b, G, rfl, gh, B, k⟩ := h; rfl
  · have hu := hu_of hr
    obtain ⟨b, G, rfl, gh, B, k⟩ := h
    refine ⟨_, (pss_cons (ps_set (i := 2) sc_lplan.nd rfl (Or.inl rfl) (pe_op op_add pe_int (pcall G_draw (hr.mono (by decide)) rfl (pa_cons (pv 0) (pa_cons (pv 1) pa_nil)))))
      (pss_cons (ps_set (i := 3) sc_lplan.nd rfl (Or.inl rfl) (pcall G_draw (hr.mono (by decide)) rfl (pa_cons (pv 0) (pa_cons (pv 2) pa_nil))))
      (pss_cons (ps_set (i := 4) sc_lplan.nd rfl (Or.inl rfl) (pcall G_draw (hr.mono (by decide)) rfl (pa_cons (pv 0) (pa_cons pe_int pa_nil))))
      (pss_cons (ps_set (i := 5) sc_lplan.nd rfl (Or.inl rfl) (pe_op op_add pe_int (pcall G_draw (hr.mono (by decide)) rfl (pa_cons (pv 0) (pa_cons (pe_callB (call_min3Nu rfl) (by rfl) T.b_min (by decide +kernel) (pa_cons pe_int (pa_cons (pe_op op_fdiv pe_int (pe_op op_sub (pv 2) pe_int)) (pa_cons (pe_ix ix_list (pe_lst (pa_cons pe_int (pa_cons pe_int (pa_cons pe_int pa_nil)))) (pcall G_draw (hr.mono (by decide)) rfl (pa_cons (pv 0) (pa_cons pe_int pa_nil))) (fun _ _ => rfl)) pa_nil)))) pa_nil)))))
      (pss_cons (ps_set (i := 6) sc_lplan.nd rfl (Or.inl rfl) (pe_lst pa_nil))
      (pss_cons (ps_for PassesOwn.never rfl (pi_range1 (by rfl) T.b_range (pa_cons (pv 5) pa_nil)) (pg_name (i := 7) sc_lplan.nd rfl (Or.inr rfl))
      (pss_one (ps_expr (pe_bm PySem.F.plainAttrs_list PySem.F.slot_list_extend PySem.F.type_list_extend mt_extend (pv 6) (pa_cons (pe_lc (own := [("_law_pair", 12)]) (g := gName 12) (tt := tYes) (by rfl) sc_lplan.nd (pi_list (pcall G_ltree (hr.mono (by decide)) rfl (pa_cons (pv 0) (pa_cons (pv 2) (pa_cons (pv 3) (pa_cons (pv 4) pa_nil)))))) (blkOk_by (N := N_lplan) (sc := defScope (topS 60)) (by decide +kernel)) (fun _ _ _ _ _ => pg_name (i := 12) sc_lplan.nd rfl (Or.inl rfl)) (fun _ _ _ _ _ => pts_nil) (fun _ _ _ _ _ => (pe_tup (pa_cons (pv 12) (pa_cons (pv 7) pa_nil))))) pa_nil)))))
      (pss_cons (ps_for PassesOwn.never rfl (pi_range1 (by rfl) T.b_range (pa_cons (pcall G_draw (hr.mono (by decide)) rfl (pa_cons (pv 0) (pa_cons pe_int pa_nil))) pa_nil)) (pg_name (i := 8) sc_lplan.nd rfl (Or.inl rfl))
      (pss_cons (ps_set (i := 9) sc_lplan.nd rfl (Or.inl rfl) (pcall G_draw (hr.mono (by decide)) rfl (pa_cons (pv 0) (pa_cons (pv 2) pa_nil))))
        (pss_one (ps_expr (pe_bm PySem.F.plainAttrs_list PySem.F.slot_list_append PySem.F.type_list_append mt_append (pv 6) (pa_cons (pe_tup (pa_cons (pe_tup (pa_cons (pv 9) (pa_cons (pe_op op_mod (pe_callTy call_int1 (by rfl) T.b_int (by decide +kernel) (pa_cons (pe_op op_add (pe_op op_add (pv 9) pe_int) (pcall G_draw (hr.mono (by decide)) rfl (pa_cons (pv 0) (pa_cons (pe_op op_sub (pv 2) pe_int) pa_nil)))) pa_nil)) (pv 2)) pa_nil))) (pa_cons (pv 5) pa_nil))) pa_nil))))))
      (pss_cons (ps_set (i := 10) sc_lplan.nd rfl (Or.inl rfl) (pe_lst pa_nil))
      (pss_cons (ps_setLc (i := 11) (own := [("_law_tree_here", 7)]) (g := gName 7) (tt := tYes) (by rfl) sc_lplan.nd rfl rfl (sw_true rfl rfl rfl (by decide +kernel)) (pi_range1 (by rfl) T.b_range (pa_cons (pe_op op_add (pv 5) pe_int) pa_nil)) (blkOk_by (N := N_lplan) (sc := defScope (topS 60)) (by decide +kernel)) (fun _ _ _ _ _ => pg_name (i := 7) sc_lplan.nd rfl (Or.inl rfl)) (fun _ _ _ _ _ => pts_nil) (fun _ _ _ _ _ => (pe_lst pa_nil)))
      (pss_cons (ps_for PassesOwn.never rfl (pi_range1 (by rfl) T.b_range (pa_cons (pe_callB call_len_seq (by rfl) T.b_len (by decide +kernel) (pa_cons (pv 6) pa_nil)) pa_nil)) (pg_name (i := 8) sc_lplan.nd rfl (Or.inl rfl))
      (pss_cons (ps_asg (pe_bm PySem.F.plainAttrs_list PySem.F.slot_list_pop PySem.F.type_list_pop mt_popAt (pv 6) (pa_cons (pcall G_draw (hr.mono (by decide)) rfl (pa_cons (pv 0) (pa_cons (pe_callB call_len_seq (by rfl) T.b_len (by decide +kernel) (pa_cons (pv 6) pa_nil)) pa_nil))) pa_nil)) (pg_tup (by rfl) (pgs_cons (pg_name (i := 12) sc_lplan.nd rfl (Or.inl rfl)) (pgs_cons (pg_name (i := 7) sc_lplan.nd rfl (Or.inr rfl)) pgs_nil))))
        (pss_cons (ps_expr (pe_bm PySem.F.plainAttrs_list PySem.F.slot_list_append PySem.F.type_list_append mt_append (pe_ix ix_list (pv 11) (pv 7) (fun _ _ => rfl)) (pa_cons (pe_callB call_len_seq (by rfl) T.b_len (by decide +kernel) (pa_cons (pv 10) pa_nil)) pa_nil)))
        (pss_one (ps_expr (pe_bm PySem.F.plainAttrs_list PySem.F.slot_list_append PySem.F.type_list_append mt_append (pv 10) (pa_cons (pv 12) pa_nil)))))))
      (pss_cons (ps_set (i := 13) sc_lplan.nd rfl (Or.inl rfl) (pe_op op_add pe_int (pcall G_draw (hr.mono (by decide)) rfl (pa_cons (pv 0) (pa_cons (pe_callB (call_min2 rfl) (by rfl) T.b_min (by decide +kernel) (pa_cons pe_int (pa_cons (pv 5) pa_nil))) pa_nil)))))
      (pss_one (ps_ret (pe_disp (pps_cons pe_str (pv 2) (pps_cons pe_str (pv 3) (pps_cons pe_str (pv 10) (pps_cons pe_str (pe_slice sl_list (pv 11) po_none (po_some (pv 5))) (pps_cons pe_str (pv 13) pps_nil))))) (by rfl) (by rfl) (fun z => by cases z) (by decide))))))))))))))), ?_⟩
    have big : (100000 : Nat) ≤ sizeLine := by decide
    have x0 : Xt (Bg b) G H G H := Xt.refl gh
    -- many, root, bend
    refine ⟨_, rfl, _, rfl, b, 7, G, rfl, gh, B, by decide, by decide, fun H1 d1 x1 B1 hd1 => ⟨_, _, rfl, rfl, ?_⟩⟩
    obtain ⟨n, hn⟩ : ∃ n, n = 2 + d1 := ⟨_, rfl⟩
    have e1 : (V.int (2 + (d1 : Int))) = nV n := by subst hn; show V.int _ = V.int _; congr 1
    show tSeq _ _ _ ([some (.ref b), some (nV 7), some (V.int (2 + (d1 : Int))), none, none, none, none, none, none, none, none, none, none, none]) H1
    rw [e1]
    have n2 : 2 ≤ n := by omega
    have n8 : n ≤ 8 := by omega
    clear e1
    refine ⟨_, rfl, _, rfl, b, n, G, rfl, x1.gh, B1, by omega, by omega, fun H2 r x2 B2 hr0 => ?_⟩
    refine ⟨_, rfl, b, 5, G, rfl, x2.gh, B2, by decide, by decide, fun H3 be x3 B3 hbe => ?_⟩
    have x13 := (x1.trans x2).trans x3
    -- count
    refine ⟨_, rfl, _, rfl, _, _, rfl, rfl, _, _, rfl, rfl, ⟨by omega, by show (n : Int) - 1 < 1073741824; omega⟩, ?_⟩
    refine ⟨by show 3 ≤ _; omega, fun cp hcp => ?_⟩
    have x4 := x13.newM hcp (.lst [.int 3, .int 6, .int 12])
    have B4 : Bag b G _ := B3.new (o := .lst [.int 3, .int 6, .int 12]) hcp
    have cpb : cp ≠ b := fun z => B3.ne (z ▸ hcp)
    refine ⟨_, rfl, b, 3, G, rfl, x4.gh, B4, by decide, by decide, fun H5 d5 x5 B5 hd5 => ?_⟩
    have hc5 := x5.hh _ _ cpb upd_same
    obtain ⟨cv, hcv, hcv2⟩ : ∃ cv : Int, ([.int 3, .int 6, .int 12] : List V)[d5]? = some (.int cv) ∧ 3 ≤ cv := by
      match d5, hd5 with
      | 0, _ => exact ⟨3, rfl, by decide⟩
      | 1, _ => exact ⟨6, rfl, by decide⟩
      | 2, _ => exact ⟨12, rfl, by decide⟩
    refine ⟨cp, _, (d5 : Int), .int cv, rfl, rfl, SqL.of hc5, atI_nat hcv, ?_⟩
    obtain ⟨z, hz, hz1, hz2, hz3, hz4⟩ := min3_int 12 (40 / ((n : Int) - 1)) cv
    refine ⟨_, _, _, _, rfl, hz, ?_⟩
    have q1 : (n : Int) - 1 > 0 := by omega
    have q2 : 40 / ((n : Int) - 1) * ((n : Int) - 1) ≤ 40 := Int.ediv_mul_le 40 (by omega)
    have q3 : 5 ≤ 40 / ((n : Int) - 1) := (Int.le_ediv_iff_mul_le q1).mpr (by omega)
    have z1 : 1 ≤ z := by omega
    obtain ⟨zn, rfl⟩ : ∃ zn : Nat, z = (zn : Int) := ⟨z.toNat, by omega⟩
    refine ⟨b, zn, G, rfl, x5.gh, B5, by omega, by omega, fun H6 d6 x6 B6 hd6 => ⟨_, _, rfl, rfl, ?_⟩⟩
    obtain ⟨m, hm⟩ : ∃ m, m = 1 + d6 := ⟨_, rfl⟩
    have e2 : (V.int (1 + (d6 : Int))) = nV m := by subst hm; show V.int _ = V.int _; congr 1
    show tSeq _ _ _ ([some (.ref b), some (nV 7), some (nV n), some (nV r), some (nV be), some (V.int (1 + (d6 : Int))), none, none, none, none, none, none, none, none]) H6
    rw [e2]
    have m1 : 1 ≤ m := by omega
    have m12 : m ≤ 12 := by omega
    have m40 : m * (n - 1) ≤ 40 := by
      have h1 : (zn : Int) * ((n : Int) - 1) ≤ 40 / ((n : Int) - 1) * ((n : Int) - 1) := Int.mul_le_mul_of_nonneg_right hz3 (by omega)
      have h2 : zn * (n - 1) ≤ 40 := by
        have : ((zn * (n - 1) : Nat) : Int) ≤ 40 := by
          rw [Int.natCast_mul, Int.natCast_sub (by omega)]
          exact Int.le_trans h1 q2
        omega
      exact Nat.le_trans (Nat.mul_le_mul_right _ (by omega)) h2
    clear e2 hm hd6 hz hz1 hz2 hz3 hz4 z1
    have x6' := (x4.trans x5).trans x6
    -- the trees, marked
    refine ⟨by show 0 ≤ _; omega, fun mp hmp => ?_⟩
    have hmp0 := x6'.hnone hmp
    have mpb : mp ≠ b := fun z => B6.ne (z ▸ hmp)
    refine ⟨_, rfl, (m : Int), rfl, by omega, by omega, for_range (lo := 0) (n := m) (fun i σ H1 => PI1 b n r be m mp G H i σ H1) ?_ ?_ ?_⟩
    · exact ⟨G, [], [], none, rfl, x6'.newM hmp _, B6.new hmp, x6'.gnone hmp, upd_same, .nil, rfl, fun t ht => by cases ht⟩
    · rintro i σ H7 hi ⟨G7, ts, acc, o7, rfl, x7, B7, gm, hm7, ha, htl, htr⟩
      refine ⟨_, rfl, .inl ⟨rfl, _, SqL.of hm7⟩, ?_⟩
      refine ⟨_, rfl, _, rfl, _, rfl, _, rfl, b, n, r, be, G7, rfl, x7.gh, B7, hr0, by omega, fun G8 H8 f ps x8 B8 htr2 Ff => ?_⟩
      obtain ⟨hf0, gf, facc, hf, hfa⟩ := Ff
      have fb : f ≠ b := fun z => B7.ne (z ▸ hf0)
      have hm8 := x8.hh _ _ mpb hm7
      have gm8 := x8.fr mp (by rw [hm7]; simp) gm
      have mf : mp ≠ f := ne_of_none hm7 hf0
      have x9 := x8.freeze hf0 gf hf
      have B9 := B8.frz (o := .lst facc) fb gf
      have gm9 : (upd G8 f (.lst facc)) mp = none := by rw [upd_ne mf]; exact gm8
      refine ⟨f, rfl, ⟨_, SqL.of hf⟩, fun D hD => lcLm ps (fun q => (q, i)) (rP rN rN) rMk x9.gh upd_same (All2.mono (same_upd gf) hfa) hD ?_ ?_ ?_⟩
      · obtain ⟨d, T⟩ := htr2
        have := T.len; omega
      · rintro j q u G10 H10 hq hu x10 Q2 k2
        refine ⟨_, rfl, _, rfl, by show 2 ≤ _; omega, fun v hv => ?_⟩
        exact k2 _ _ _ ((Xt.refl x10.gh).new hv _) ⟨v, u, _, rfl, upd_same, Mn.mono (same_upd (x10.gnone hv)) hu, by show V.int (0 + (i : Int)) = V.int (i : Int); rw [Int.zero_add]⟩
      · rintro G10 H10 acc10 x10 hD10 gD10 ha10
        have x11 := (x7.trans x9).trans x10.pu
        have B11 := B9.pu x10
        have hm10 := x10.hh _ _ (fun z => z) hm8
        have gm10 := x10.fr mp (by rw [hm8]; simp) gm9
        have e : mk 0 (ts ++ [ps]) = mk 0 ts ++ ps.map fun q => (q, i) := by rw [mk_snoc, Nat.zero_add, htl]
        have hall : All2 rMk G10 (mk 0 (ts ++ [ps])) (acc ++ acc10) := by
          rw [e]; exact (All2.mono (x9.gg.trans x10.gg) ha).app ha10
        have htr3 : ∀ t ∈ ts ++ [ps], ∃ d, Tr n r t d := fun t ht => by
          rcases List.mem_append.mp ht with h | h
          · exact htr t h
          · rw [List.mem_singleton.mp h]; exact htr2
        refine ⟨mp, D, _, _, rfl, rfl, hm10, hD10, ?_, ?_⟩
        · have h1 := hall.len
          rw [List.length_append, mk_len n (ts ++ [ps]) 0 fun t ht => by obtain ⟨d, T⟩ := htr3 t ht; exact T.len] at h1
          rw [List.length_append, htl, List.length_singleton] at h1
          have h2 := Nat.mul_le_mul_right (n - 1) (show i + 1 ≤ m by omega)
          omega
        · exact ⟨G10, ts ++ [ps], _, _, rfl, x11.mut (.inl hmp0) gm10 _, B11.upd mpb, gm10, upd_same, hall, by rw [List.length_append, htl]; rfl, htr3⟩
    · rintro σ H7 ⟨G7, ts, acc, o7, rfl, x7, B7, gm, hm7, ha, htl, htr⟩
      -- extra pairs
      refine ⟨_, rfl, b, 6, G7, rfl, x7.gh, B7, by decide, by decide, fun H8 d8 x8 B8 hd8 => ?_⟩
      have x9 := x7.trans x8
      have hm8 := x8.hh _ _ mpb hm7
      refine ⟨(d8 : Int), rfl, by omega, by omega, for_range (lo := 0) (n := d8) (fun i σ H1 => PI2 b n r be m mp ts G H i σ H1) ?_ ?_ ?_⟩
      · exact ⟨G7, [], acc, o7, none, none, rfl, x9, B8, gm, hm8, by rw [List.map_nil, List.append_nil]; exact ha, rfl, fun q hq => by cases hq⟩
      · rintro i σ H9 hi ⟨G9, ex, acc9, o7, o8, o9, rfl, x9, B9, gm9, hm9, ha9, hel, hex⟩
        refine ⟨_, rfl, _, rfl, b, n, G9, rfl, x9.gh, B9, by omega, by omega, fun H10 d10 x10 B10 hd10 => ?_⟩
        have hm10 := x10.hh _ _ mpb hm9
        refine ⟨_, rfl, .inl ⟨rfl, _, SqL.of hm10⟩, ?_⟩
        refine ⟨_, rfl, _, rfl, _, _, rfl, rfl, _, rfl, _, rfl, _, _, rfl, rfl, b, n - 1, G9, ?_, (x9.trans x10).gh, B10, by omega, by omega, fun H11 d11 x11 B11 hd11 => ?_⟩
        · show [V.ref b, V.int ((n : Int) - 1)] = [V.ref b, V.int ((n - 1 : Nat) : Int)]
          rw [Int.natCast_sub (by omega)]; rfl
        refine ⟨_, _, rfl, rfl, .inl ⟨_, rfl, _, rfl, _, _, rfl, rfl, by show (0 : Int) < (n : Int); omega, by show 2 ≤ _; omega, fun u hu => ?_⟩⟩
        have eq : V.int (((d10 : Int) + 1 + (d11 : Int)) % (n : Int)) = nV ((d10 + 1 + d11) % n) := by
          show V.int _ = V.int _
          rw [Int.natCast_emod]; rfl
        have x12 := ((x9.trans x10).trans x11)
        have x13 := x12.new hu (.tup [nV d10, nV ((d10 + 1 + d11) % n)])
        have B13 := B11.newG (o := .tup [nV d10, nV ((d10 + 1 + d11) % n)]) hu (x12.gnone hu)
        show tCons _ _ _ (upd H11 u (.tup [nV d10, V.int (((d10 : Int) + 1 + (d11 : Int)) % (n : Int))])) _
        rw [eq]
        have hm11 := x11.hh _ _ mpb hm10
        have mu : mp ≠ u := ne_of_none hm11 hu
        refine ⟨_, rfl, by show 2 ≤ _; omega, fun u2 hu2 => ?_⟩
        have x14 := x13.new hu2 (.tup [.ref u, nV m])
        have B14 := B13.newG (o := .tup [.ref u, nV m]) hu2 (x13.gnone hu2)
        have mu2 : mp ≠ u2 := fun z => by rw [← z, upd_ne mu, hm11] at hu2; cases hu2
        have uu2 : u ≠ u2 := fun z => by rw [← z, upd_same] at hu2; cases hu2
        have gm14 : (upd (upd G9 u (.tup [nV d10, nV ((d10 + 1 + d11) % n)])) u2 (.tup [.ref u, nV m])) mp = none := by rw [upd_ne mu2, upd_ne mu]; exact gm9
        have alen := ha9.len
        have mlen := mk_len n ts 0 fun t ht => by obtain ⟨d, T⟩ := htr t ht; exact T.len
        rw [htl] at mlen
        rw [List.length_append, List.length_map, mlen] at alen
        refine ⟨mp, _, _, rfl, rfl, by rw [upd_ne mu2, upd_ne mu]; exact hm11, by omega, ?_⟩
        refine ⟨_, ex ++ [(d10, (d10 + 1 + d11) % n)], acc9 ++ [.ref u2], _, _, _, rfl, x14.mut (.inl hmp0) gm14 _, B14.upd mpb, gm14, upd_same, ?_, by rw [List.length_append, hel]; rfl, ?_⟩
        · rw [List.map_append, ← List.append_assoc]
          refine (All2.mono ((same_upd (x12.gnone hu)).trans (same_upd (x13.gnone hu2))) ha9).app (.one ⟨u2, .ref u, _, rfl, upd_same, ⟨u, _, _, rfl, ?_, rfl, rfl⟩, rfl⟩)
          rw [upd_ne uu2]; exact upd_same
        · intro q hq
          rcases List.mem_append.mp hq with h | h
          · exact hex q h
          · rw [List.mem_singleton.mp h]
            refine ⟨hd10, Nat.mod_lt _ (by omega), ?_⟩
            show d10 ≠ (d10 + 1 + d11) % n
            by_cases hlt : d10 + 1 + d11 < n
            · rw [Nat.mod_eq_of_lt hlt]; omega
            · rw [Nat.mod_eq_sub_mod (by omega), Nat.mod_eq_of_lt (by omega)]; omega
      · rintro σ H9 ⟨G9, ex, acc9, o7, o8, o9, rfl, x9, B9, gm9, hm9, ha9, hel, hex⟩
        have hlen0 : (mk 0 ts ++ ex.map fun q => (q, m)).length ≤ 45 := by
          rw [List.length_append, List.length_map, mk_len n ts 0 fun t ht => by obtain ⟨d, T⟩ := htr t ht; exact T.len, htl]
          omega
        have hmk : ∀ x ∈ mk 0 ts ++ ex.map fun q => (q, m), x.2 < m + 1 := fun x hx => by
          rcases List.mem_append.mp hx with h | h
          · have := (mk_ge ts 0 x h).2.1
            omega
          · obtain ⟨q, _, rfl⟩ := List.mem_map.mp h
            exact Nat.lt_succ_self _
        -- links, trees
        refine ⟨by show 0 ≤ _; omega, fun lp hlp => ?_⟩
        have x10 := x9.newM hlp (.lst [])
        have B10 : Bag b G9 _ := B9.new (o := .lst []) hlp
        have lpb : lp ≠ b := fun z => B9.ne (z ▸ hlp)
        have hlp0 := x9.hnone hlp
        have glp := x9.gnone hlp
        have ml : mp ≠ lp := ne_of_none hm9 hlp
        have hm10 : (upd H9 lp (.lst [])) mp = some (.lst acc9) := by rw [upd_ne ml]; exact hm9
        generalize eHb : upd H9 lp (.lst []) = Hb at x10 B10 hm10
        have hlb : Hb lp = some (.lst []) := by rw [← eHb]; exact upd_same
        refine ⟨_, rfl, _, _, rfl, rfl, (m : Int) + 1, rfl, by omega, by omega, fun tp htp => ?_⟩
        rw [show ((m : Int) + 1).toNat = m + 1 by omega]
        have htp0 := x10.hnone htp
        have tpb : tp ≠ b := fun z => B10.ne (z ▸ htp)
        have mt : mp ≠ tp := ne_of_none hm10 htp
        have lt : lp ≠ tp := ne_of_none hlb htp
        have gtp := x10.gnone htp
        refine lc_range (lo := 0) (n := m + 1) (fun i H' => ∃ qs : List Addr, Xt Pu G9 Hb G9 H' ∧ H' tp = some (.lst (qs.map .ref)) ∧ qs.length = i ∧ qs.Nodup ∧ ∀ q ∈ qs, H' q = some (.lst []) ∧ Hb q = none ∧ q ≠ tp) ?_ ?_ ?_
        · exact ⟨[], (Xt.refl x10.gh).newM htp _, upd_same, rfl, List.nodup_nil, fun q hq => by cases hq⟩
        · rintro i H' hi ⟨qs, y1, y2, y3, y4, y5⟩
          refine ⟨wipe_set, ?_⟩
          unfold tYes
          dsimp only
          rw [if_pos rfl]
          refine ⟨by show 0 ≤ _; omega, fun u hu => ⟨qs.map .ref, ?_, by rw [List.length_map]; omega, ?_⟩⟩
          · rw [upd_ne (ne_of_none y2 hu)]; exact y2
          · have ut : u ≠ tp := (ne_of_none y2 hu).symm
            have uq : u ∉ qs := fun z => by rw [(y5 u z).1] at hu; cases hu
            refine ⟨qs ++ [u], (y1.newM hu _).mut (.inl htp) gtp _, by rw [upd_same, List.map_append]; rfl, by rw [List.length_append, y3]; rfl, ?_, fun q hq => ?_⟩
            · refine List.nodup_append.mpr ⟨y4, by simp, fun a ha c hc hac => ?_⟩
              rw [List.mem_singleton.mp hc] at hac
              exact uq (hac ▸ ha)
            · rcases List.mem_append.mp hq with h | h
              · have hqu : q ≠ u := fun z => uq (z ▸ h)
                exact ⟨by rw [upd_ne (y5 q h).2.2, upd_ne hqu]; exact (y5 q h).1, (y5 q h).2⟩
              · rw [List.mem_singleton.mp h]
                exact ⟨by rw [upd_ne ut, upd_same], y1.hnone hu, ut⟩
        · rintro H12 ⟨qs, y1, y2, y3, y4, y5⟩
          have x12 := x10.trans y1.pu
          have B12 := B10.pu y1
          have hm12 := y1.hh _ _ (fun z => z) hm10
          have hl12 := y1.hh _ _ (fun z => z) hlb
          have qb : ∀ q ∈ qs, q ≠ b := fun q hq z => B10.ne (z ▸ (y5 q hq).2.1)
          have qm : ∀ q ∈ qs, q ≠ mp := fun q hq z => by have := (y5 q hq).2.1; rw [z, hm10] at this; cases this
          have ql : ∀ q ∈ qs, q ≠ lp := fun q hq z => by have := (y5 q hq).2.1; rw [z, hlb] at this; cases this
          have qt : ∀ q ∈ qs, q ≠ tp := fun q hq => (y5 q hq).2.2
          have q0 : ∀ q ∈ qs, H q = none := fun q hq => x10.hnone (y5 q hq).2.1
          have qg : ∀ q ∈ qs, G9 q = none := fun q hq => x10.gnone (y5 q hq).2.1
          refine ⟨_, rfl, mp, _, rfl, .inl (SqL.of hm12), _, rfl, by omega, by have := ha9.len; omega, ?_⟩
          rw [ha9.len]
          refine for_range (lo := 0) (n := (mk 0 ts ++ ex.map fun q => (q, m)).length) (fun i σ H1 => PI3 b n r be m mp lp tp qs (mk 0 ts ++ ex.map fun q => (q, m)) G H G9 i σ H1) ?_ ?_ ?_
          · refine ⟨[], _, acc9, [], _, _, _, _, rfl, x12, B12, List.Perm.refl _, rfl, hm12, ha9, hl12, .nil, y2, fun j q hj => ?_⟩
            rw [(y5 q (List.mem_of_getElem? hj)).1]; rfl
          · rintro i σ H13 hi ⟨D, M, mv, la, o7, o8, o9, o12, rfl, x13, B13, hper, hDi, hm13, hM, hl13, hla, ht13, hq13⟩
            have hMl : 0 < M.length := by
              have := hper.length_eq
              rw [List.length_append] at this; omega
            have mvl := hM.len
            have Dl : D.length + M.length ≤ 45 := by
              have := hper.length_eq
              rw [List.length_append] at this; omega
            refine ⟨_, rfl, .inl ⟨rfl, _, SqL.of hm13⟩, _, rfl, _, rfl, mp, _, rfl, .inl (SqL.of hm13), b, M.length, G9, by rw [mvl]; rfl, x13.gh, B13, hMl, by omega, fun H14 d x14 B14 hd => ?_⟩
            have hm14 := x14.hh _ _ mpb hm13
            have hl14 := x14.hh _ _ lpb hl13
            have ht14 := x14.hh _ _ tpb ht13
            have hq14 : ∀ (j : Nat) (q : Addr), qs[j]? = some q → H14 q = some (.lst ((idx j D).map nV)) := fun j q hj => x14.hh _ _ (qb q (List.mem_of_getElem? hj)) (hq13 j q hj)
            obtain ⟨y, hy, hy2⟩ := All2.get hM (List.getElem?_eq_getElem hd)
            have hy3 := hy2
            obtain ⟨yp, ya, yb, rfl, hyp, hya, rfl⟩ := hy2
            have hmark : M[d].2 < m + 1 := hmk _ (hper.mem_iff.mp (List.mem_append_right _ (List.getElem_mem hd)))
            have hqm : qs[M[d].2]? = some (qs[M[d].2]'(by omega)) := List.getElem?_eq_getElem _
            generalize qs[M[d].2]'(by omega) = qq at hqm
            have hqin := List.mem_of_getElem? hqm
            refine ⟨mp, _, (d : Int), d, _, rfl, rfl, hm14, by omega, by omega, seq_nat (by omega), hy, ?_⟩
            have x15 := (x13.trans x14).mut (.inl hmp0) gm9 (.lst (mv.eraseIdx d))
            have B15 := B14.upd (o := .lst (mv.eraseIdx d)) mpb
            have hyp15 := x15.gh _ _ hyp
            refine ⟨yp, _, rfl, SqT.of hyp15, rfl, ?_⟩
            refine ⟨_, _, rfl, _, _, rfl, rfl, ?_⟩
            have ht15 : (upd H14 mp (.lst (mv.eraseIdx d))) tp = some (.lst (qs.map .ref)) := by rw [upd_ne mt.symm]; exact ht14
            have hl15 : (upd H14 mp (.lst (mv.eraseIdx d))) lp = some (.lst la) := by rw [upd_ne ml.symm]; exact hl14
            have hq15 : (upd H14 mp (.lst (mv.eraseIdx d))) qq = some (.lst ((idx M[d].2 D).map nV)) := by rw [upd_ne (qm qq hqin)]; exact hq14 _ _ hqm
            have lal := hla.len
            rw [List.length_map] at lal
            have idxl : (idx M[d].2 D).length ≤ D.length := by
              unfold idx
              refine Nat.le_trans (List.length_filter_le _ _) ?_
              rw [List.length_range]; exact Nat.le_refl _
            refine ⟨_, rfl, _, rfl, tp, _, (M[d].2 : Int), .ref qq, rfl, rfl, SqL.of ht15, atI_nat (by rw [List.getElem?_map, hqm]; rfl), .inl ⟨rfl, _, SqL.of hq15⟩, _, rfl, lp, _, rfl, .inl (SqL.of hl15), qq, _, _, rfl, rfl, hq15, by rw [List.length_map]; omega, ?_⟩
            have x16 := x15.mut (.inl (q0 qq hqin)) (qg qq hqin) (.lst ((idx M[d].2 D).map nV ++ [.int (la.length : Nat)]))
            have hl16 : (upd (upd H14 mp (.lst (mv.eraseIdx d))) qq (.lst ((idx M[d].2 D).map nV ++ [.int (la.length : Nat)]))) lp = some (.lst la) := by rw [upd_ne (ql qq hqin).symm]; exact hl15
            refine ⟨_, rfl, .inl ⟨rfl, _, SqL.of hl16⟩, _, rfl, lp, _, _, rfl, rfl, hl16, by omega, ?_⟩
            have x17 := x16.mut (.inl hlp0) glp (.lst (la ++ [ya]))
            refine ⟨D ++ [M[d]], M.eraseIdx d, mv.eraseIdx d, la ++ [ya], _, _, _, _, rfl, x17, (B15.upd (qb qq hqin)).upd lpb, ?_, by rw [List.length_append, hDi]; rfl, ?_, All2.erase d hM, upd_same, ?_, ?_, ?_⟩
            · refine List.Perm.trans ?_ hper
              rw [List.append_assoc]
              exact (erase_perm hd).append_left D
            · rw [upd_ne ml, upd_ne (qm qq hqin).symm, upd_same]
            · rw [List.map_append]; exact hla.app (.one hya)
            · rw [upd_ne lt.symm, upd_ne (qt qq hqin).symm]; exact ht15
            · intro j q hj
              have hjin := List.mem_of_getElem? hj
              rw [idx_snoc]
              by_cases e : M[d].2 = j
              · rw [if_pos e]
                rw [e] at hqm
                rw [hqm] at hj
                cases hj
                rw [upd_ne (ql _ hqin), upd_same, List.map_append, e, lal]; rfl
              · rw [if_neg e, List.append_nil]
                have hqq : q ≠ qq := fun z => by
                  subst z
                  obtain ⟨h1, h2⟩ := List.getElem?_eq_some_iff.mp hj
                  obtain ⟨h3, h4⟩ := List.getElem?_eq_some_iff.mp hqm
                  have pw := List.pairwise_iff_getElem.mp y4
                  rcases Nat.lt_trichotomy j M[d].2 with h | h | h
                  · exact pw _ _ h1 h3 h (h2.trans h4.symm)
                  · exact e h.symm
                  · exact pw _ _ h3 h1 h (h4.trans h2.symm)
                rw [upd_ne (ql q hjin), upd_ne hqq, upd_ne (qm q hjin)]
                exact hq14 j q hj
          · rintro σ H13 ⟨D, M, mv, la, o7, o8, o9, o12, rfl, x13, B13, hper, hDi, hm13, hM, hl13, hla, ht13, hq13⟩
            have eM : M = [] := by
              have := hper.length_eq
              rw [List.length_append] at this
              exact List.length_eq_zero_iff.mp (by omega)
            subst eM
            rw [List.append_nil] at hper
            -- size
            refine ⟨_, rfl, _, rfl, 8, (m : Int), rfl, ?_⟩
            obtain ⟨zs, hzs, hz1, hz2, hz3⟩ : ∃ zs : Nat, (if (m : Int) < 8 then (m : Int) else 8) = (zs : Int) ∧ 0 < zs ∧ zs ≤ 8 ∧ zs ≤ m := by
              by_cases h : (m : Int) < 8
              · exact ⟨m, by rw [if_pos h], by omega, by omega, by omega⟩
              · exact ⟨8, by rw [if_neg h]; rfl, by omega, by omega, by omega⟩
            rw [hzs]
            refine ⟨b, zs, G9, rfl, x13.gh, B13, hz1, by omega, fun H14 d x14 B14 hd => ⟨_, _, rfl, rfl, ?_⟩⟩
            have hl14 := x14.hh _ _ lpb hl13
            have ht14 := x14.hh _ _ tpb ht13
            have hq14 : ∀ (j : Nat) (q : Addr), qs[j]? = some q → H14 q = some (.lst ((idx j D).map nV)) := fun j q hj => x14.hh _ _ (qb q (List.mem_of_getElem? hj)) (hq13 j q hj)
            have x15 := x13.trans x14
            have es : V.int (1 + (d : Int)) = nV (1 + d) := by show V.int _ = V.int _; congr 1
            intro p hp
            have hl16 : (upd H14 p (.dK [])) lp = some (.lst la) := by rw [upd_ne (ne_of_none hl14 hp)]; exact hl14
            have ht16 : (upd H14 p (.dK [])) tp = some (.lst (qs.map .ref)) := by rw [upd_ne (ne_of_none ht14 hp)]; exact ht14
            refine ⟨_, rfl, _, rfl, _, rfl, _, rfl, _, rfl, (m : Int), rfl, tp, _, rfl, SqL.of ht16, fun sp hsp => ?_⟩
            have ecut : cutV (qs.map V.ref) none (some (m : Int)) = (qs.take m).map V.ref := by
              unfold cutV
              rw [HT.sIx_nat, HT.sIx_none, List.drop_zero, Nat.sub_zero, List.length_map, List.map_take, Nat.min_eq_left (by omega)]
            rw [ecut]
            have x16 := x15.newM hp (.dK [])
            have x17 := x16.newM hsp (.lst ((qs.take m).map V.ref))
            have ps : p ≠ sp := fun z => by rw [← z, upd_same] at hsp; cases hsp
            have hp0 := x15.hnone hp
            have hsp0 := x16.hnone hsp
            have gp := x15.gnone hp
            have gsp := x16.gnone hsp
            have pb : p ≠ b := fun z => B14.ne (z ▸ hp)
            have B16 : Bag b G9 _ := B14.new (o := .dK []) hp
            have spb : sp ≠ b := fun z => B16.ne (z ▸ hsp)
            have B17 := B16.new (o := .lst ((qs.take m).map V.ref)) hsp
            refine ⟨_, rfl, ?_, [(.inr "many", nV n), (.inr "root", nV r), (.inr "links", .ref lp), (.inr "trees", .ref sp), (.inr "size", V.int (1 + (d : Int)))], rfl, by show 5 ≤ 15; decide, ?_⟩
            · rw [upd_ne ps]; exact upd_same
            rw [es]
            have emerge : mergeK [] [((.inr "many" : Key), nV n), (.inr "root", nV r), (.inr "links", .ref lp), (.inr "trees", .ref sp), (.inr "size", nV (1 + d))] = [((.inr "many" : Key), nV n), (.inr "root", nV r), (.inr "links", .ref lp), (.inr "trees", .ref sp), (.inr "size", nV (1 + d))] := by rfl
            rw [emerge]
            have x18 := x17.mut (.inl hp0) gp (.dK [((.inr "many" : Key), nV n), (.inr "root", nV r), (.inr "links", .ref lp), (.inr "trees", .ref sp), (.inr "size", nV (1 + d))])
            have B18 := B17.upd (o := .dK [((.inr "many" : Key), nV n), (.inr "root", nV r), (.inr "links", .ref lp), (.inr "trees", .ref sp), (.inr "size", nV (1 + d))]) pb
            -- all of it stays
            have hlp18 : (upd (upd (upd H14 p (.dK [])) sp (.lst ((qs.take m).map V.ref))) p (.dK [((.inr "many" : Key), nV n), (.inr "root", nV r), (.inr "links", .ref lp), (.inr "trees", .ref sp), (.inr "size", nV (1 + d))])) lp = some (.lst la) := by
              rw [upd_ne (ne_of_none hl14 hp), upd_ne (ne_of_none hl16 hsp)]; exact hl16
            have hsp18 : (upd (upd (upd H14 p (.dK [])) sp (.lst ((qs.take m).map V.ref))) p (.dK [((.inr "many" : Key), nV n), (.inr "root", nV r), (.inr "links", .ref lp), (.inr "trees", .ref sp), (.inr "size", nV (1 + d))])) sp = some (.lst ((qs.take m).map V.ref)) := by
              rw [upd_ne ps.symm, upd_same]
            have hq18 : ∀ (j : Nat) (q : Addr), qs[j]? = some q → (upd (upd (upd H14 p (.dK [])) sp (.lst ((qs.take m).map V.ref))) p (.dK [((.inr "many" : Key), nV n), (.inr "root", nV r), (.inr "links", .ref lp), (.inr "trees", .ref sp), (.inr "size", nV (1 + d))])) q = some (.lst ((idx j D).map nV)) := fun j q hj => by
              have h1 := hq14 j q hj
              have h2 : (upd H14 p (.dK [])) q = some (.lst ((idx j D).map nV)) := by rw [upd_ne (ne_of_none h1 hp)]; exact h1
              rw [upd_ne (ne_of_none h1 hp), upd_ne (ne_of_none h2 hsp)]; exact h2
            have hp18 : (upd (upd (upd H14 p (.dK [])) sp (.lst ((qs.take m).map V.ref))) p (.dK [((.inr "many" : Key), nV n), (.inr "root", nV r), (.inr "links", .ref lp), (.inr "trees", .ref sp), (.inr "size", nV (1 + d))])) p = some (.dK [((.inr "many" : Key), nV n), (.inr "root", nV r), (.inr "links", .ref lp), (.inr "trees", .ref sp), (.inr "size", nV (1 + d))]) := upd_same
            generalize (upd (upd (upd H14 p (.dK [])) sp (.lst ((qs.take m).map V.ref))) p (.dK [((.inr "many" : Key), nV n), (.inr "root", nV r), (.inr "links", .ref lp), (.inr "trees", .ref sp), (.inr "size", nV (1 + d))])) = Hz at x18 B18 hlp18 hsp18 hq18 hp18 ⊢
            have hz : p ≠ lp := (ne_of_none hl14 hp).symm
            have hqs0 : ∀ q ∈ (p :: lp :: sp :: qs), H q = none ∧ G9 q = none := fun q hq => by
              rcases List.mem_cons.mp hq with rfl | hq
              · exact ⟨hp0, gp⟩
              rcases List.mem_cons.mp hq with rfl | hq
              · exact ⟨hlp0, glp⟩
              rcases List.mem_cons.mp hq with rfl | hq
              · exact ⟨hsp0, gsp⟩
              · exact ⟨q0 q hq, qg q hq⟩
            have hqsb : ∀ q ∈ (p :: lp :: sp :: qs), q ≠ b ∧ G9 q = none := fun q hq => ⟨fun z => B.ne (z ▸ (hqs0 q hq).1), (hqs0 q hq).2⟩
            have inq : ∀ q ∈ qs, q ∈ (p :: lp :: sp :: qs) := fun q hq => List.mem_cons_of_mem _ (List.mem_cons_of_mem _ (List.mem_cons_of_mem _ hq))
            have sm := frM_same (H := Hz) fun q hq => (hqs0 q hq).2
            have ok : PlanOk n r (D.map Prod.fst) ((List.range ts.length).map fun j => idx j D) (1 + d) := plan_ok (ex := ex) (by rw [htl]; exact hper) n2 n8 hr0 htr hex (by omega) (by omega) (by omega) (by rw [htl]; exact m40) (by omega) (by omega) (by omega)
            rw [htl] at ok
            have hqst : ∀ q ∈ (p :: lp :: sp :: qs), ∀ ps, Hz q ≠ some (.tbl ps) := fun q hq ps z => by
              rcases List.mem_cons.mp hq with rfl | hq
              · rw [hp18] at z; cases z
              rcases List.mem_cons.mp hq with rfl | hq
              · rw [hlp18] at z; cases z
              rcases List.mem_cons.mp hq with rfl | hq
              · rw [hsp18] at z; cases z
              · obtain ⟨j, hj, e⟩ := List.getElem_of_mem hq
                rw [hq18 j q (by rw [List.getElem?_eq_getElem hj, e])] at z; cases z
            refine k _ Hz p n r (1 + d) _ _ (x18.frM hqs0 hqst) (B18.frM hqsb) ok n8 ⟨lp, sp, ?_, ⟨lp, la, rfl, ?_, All2.mono sm hla⟩, sp, (qs.take m).map V.ref, rfl, ?_, ?_⟩
            · rw [frM_in List.mem_cons_self]; exact hp18
            · rw [frM_in (List.mem_cons_of_mem _ List.mem_cons_self)]; exact hlp18
            · rw [frM_in (List.mem_cons_of_mem _ (List.mem_cons_of_mem _ List.mem_cons_self))]; exact hsp18
            · have key : ∀ i, i ≤ m → All2 (rL rN) (frM G9 Hz (p :: lp :: sp :: qs)) ((List.range i).map fun j => idx j D) ((qs.take i).map V.ref) := by
                intro i
                induction i with
                | zero => intro _; exact .nil
                | succ i ih =>
                  intro hi
                  have hqi : qs[i]? = some (qs[i]'(by omega)) := List.getElem?_eq_getElem _
                  rw [List.range_succ, List.map_append, take_step hqi, List.map_append]
                  refine (ih (by omega)).app (.one (nat_rL (p := qs[i]'(by omega)) ?_))
                  rw [frM_in (inq _ (List.getElem_mem _))]
                  exact hq18 i _ hqi
              exact key m (Nat.le_refl _)
end
end Sp
end

section
set_option Elab.async false
set_option linter.all false
set_option maxRecDepth 100000
set_option maxHeartbeats 4000000
/-! Sparetrees: the law's plan made; its ways. -/
namespace Sp
open PySem PySem.Spec PyProof.Rows L2
section
variable {P : Program} {w : World} {K : PySem.W.Frag} {mg : Str → Option Value} {base : Heap}
theorem rL_rT {α : Type} {R : Rp α} {xs : List α} {p : Addr} {vs : List V} {G : Hp} (h : G p = some (.tup vs)) (a : All2 R G xs vs) : rT R xs (.ref p) G := ⟨p, vs, rfl, h, a⟩
def sp_made (K : PySem.W.Frag) : L2.Sp := fun vs H Q _ => ∃ (n r k : Nat) (L : List Lk) (t : List (List Nat)) (p : Addr) (G : Hp), vs = [.ref p] ∧ Same G H ∧ DictP n r L t k p G ∧ PlanOk n r L t k ∧
  ∀ (G' H' : Hp) (v : V), Xt Pu G H G' H' → PlanP K n r L t k v G' → Q v H'
abbrev N_made : List Str := ["_law_plan_here", "_law_net", "_law_tree_here"]
theorem sc_made : FnScope N_made ["_law_plan_here"] (defScope (topS 61)) := ⟨rfl, rfl, rfl, by decide +kernel, rfl, by decide +kernel, by decide +kernel⟩
theorem ok_made (T : Txt K mg) : Keeps P w K mg base 11 "_law_made" ["_law_plan_here"] (sp_made K) := by
  have G_Net := ok_Net (P := P) (w := w) (base := base) T
  have G_Plan := ok_Plan (P := P) (w := w) (base := base) T
  refine T.d_made.keeps sc_made (fun _ _ _ _ _ _ us hl => match us, hl with | [_], _ => rfl) (fun vs H Q E h => ?_) (fun cdv A outer s H vs Q E hr h => ?_)
  · obtain ⟨n, r, k', L, t, p, G, rfl, gh, Dp, ok, k⟩ := h; rfl
  · have hu := hu_of hr
    obtain ⟨n, r, k', L, t, p, G, rfl, gh, Dp, ok, k⟩ := h
    refine ⟨_, (pss_cons (ps_set (i := 1) sc_made.nd rfl (Or.inl rfl) (pmake T.net G_Net (hr.mono (by decide)) rfl (pa_cons (pe_dget hu (pv 0) pe_str (fun _ _ => rfl)) (pa_cons (pe_dget hu (pv 0) pe_str (fun _ _ => rfl)) (pa_cons (pe_callTy call_tuple_of (by rfl) T.b_tuple (by decide +kernel) (pa_cons (pe_dget hu (pv 0) pe_str (fun _ _ => rfl)) pa_nil)) pa_nil)))))
      (pss_one (ps_ret (pmake T.plan G_Plan (hr.mono (by decide)) rfl (pa_cons (pv 1) (pa_cons (pe_callTy call_tuple_of (by rfl) T.b_tuple (by decide +kernel) (pa_cons (pe_lc (own := [("_law_tree_here", 2)]) (g := gName 2) (tt := tYes) (by rfl) sc_made.nd (pi_list (pe_dget hu (pv 0) pe_str (fun _ _ => rfl))) (blkOk_by (N := N_made) (sc := defScope (topS 61)) (by decide +kernel)) (fun _ _ _ _ _ => pg_name (i := 2) sc_made.nd rfl (Or.inl rfl)) (fun _ _ _ _ _ => pts_nil) (fun _ _ _ _ _ => (pe_callTy (call_tuple_ofK (K := K)) (by rfl) T.b_tuple (by decide +kernel) (pa_cons (pv 2) pa_nil)))) pa_nil)) (pa_cons (pe_dget hu (pv 0) pe_str (fun _ _ => rfl)) pa_nil))))))), ?_⟩
    obtain ⟨lp, tp, hp, ⟨_, ls, e1, hlp, hls⟩, ⟨_, ts, e2, htp, hts⟩⟩ := Dp
    cases e1
    cases e2
    have x0 : Xt Pu G H G H := Xt.refl gh
    refine ⟨_, rfl, p, _, rfl, DGet.k (k := .inr "many") (gh _ _ hp), ?_⟩
    refine ⟨_, rfl, p, _, rfl, DGet.k (k := .inr "root") (gh _ _ hp), ?_⟩
    refine ⟨_, rfl, p, _, rfl, DGet.k (k := .inr "links") (gh _ _ hp), lp, _, rfl, .inl ⟨SqL.of (gh _ _ hlp), fun lt hlt => ?_⟩⟩
    have x1 := x0.new hlt (.tup ls)
    intro x dx hx hdx hne
    have x2 := x1.newM hdx (.own x)
    have hx2 : (upd (upd H lt (.tup ls)) dx (.own x)) x = none := by rw [upd_ne hne.symm]; exact hx
    have x3 := x2.newM hx2 (.ins (He.ga K "Net") dx [])
    have hls1 : All2 (rP rN rN) (upd G lt (.tup ls)) L ls := All2.mono (same_upd (x0.gnone hlt)) hls
    refine ⟨n, r, L, x, dx, .ref lt, _, rfl, x3.gh, upd_same, x1.gnone hx, ⟨lt, ls, rfl, upd_same, hls1⟩, ok.n2, ok.n10, ok.rn, ok.L60, ok.links, fun G4 H4 x4 hx4 => ⟨rfl, ?_⟩⟩
    have x5 := x3.own x4 fun c hc => .inr (hc ▸ x1.hnone hx)
    have gx4 := x4.fr x (by rw [upd_same]; simp) (x1.gnone hx)
    have x6 := x5.freeze (x1.hnone hx) gx4 hx4
    have hN : NetO K n r L (.ref x) (upd G4 x (.ins (He.ga K "Net") dx [("many", nV n), ("root", nV r), ("links", .ref lt)])) := ⟨x, dx, .ref lt, rfl, upd_same, rL_rT (by rw [upd_ne (ne_of_none (x4.gg _ _ (upd_same (H := G) (a := lt) (o := .tup ls))) gx4)]; exact x4.gg _ _ upd_same) (All2.mono (x4.gg.trans (same_upd gx4)) hls1)⟩
    generalize upd G4 x (.ins (He.ga K "Net") dx [("many", nV n), ("root", nV r), ("links", .ref lt)]) = G6 at x6 hN
    -- Plan
    have hts6 : All2 (rL rN) G6 t ts := All2.mono x6.gg hts
    refine ⟨_, rfl, _, rfl, p, _, rfl, DGet.k (k := .inr "trees") (x6.old hp), tp, rfl, ⟨_, SqL.of (x6.old htp)⟩, fun D hD => lcLm t (fun y => y) (rL rN) (rT rN) x6.gh (x6.gg _ _ htp) hts6 hD (Nat.lt_of_le_of_lt ok.m12 (by decide)) ?_ ?_⟩
    · rintro j y u G7 H7 hy hu x7 Q2 k2
      obtain ⟨q, rfl, hq⟩ := rL_nat hu
      exact ⟨_, rfl, q, _, rfl, .inl ⟨SqL.of (x7.gh _ _ hq), fun v hv => k2 _ _ _ ((Xt.refl x7.gh).new hv _) (nat_rT (p := v) upd_same)⟩⟩
    · rintro G7 H7 acc x7 hD7 gD7 hacc
      rw [List.map_id'] at hacc
      have x8 := x6.trans x7
      refine ⟨D, _, rfl, .inl ⟨SqL.of hD7, fun tt htt => ?_⟩⟩
      have x9 := x8.new htt (.tup acc)
      refine ⟨_, rfl, p, _, rfl, DGet.k (k := .inr "size") (x9.old hp), ?_⟩
      intro z dz hz hdz hnez
      have x10 := x9.newM hdz (.own z)
      have hz2 : (upd (upd H7 tt (.tup acc)) dz (.own z)) z = none := by rw [upd_ne hnez.symm]; exact hz
      have x11 := x10.newM hz2 (.ins (He.ga K "Plan") dz [])
      have gz := x9.gnone hz
      have hN2 := hN.mono (x7.gg.trans (same_upd (x8.gnone htt) (o := .tup acc)))
      have hT2 : rT (rT rN) t (.ref tt) (upd G7 tt (.tup acc)) := rL_rT upd_same (All2.mono (same_upd (x8.gnone htt)) hacc)
      refine ⟨n, r, L, t, k', z, dz, tt, .ref x, _, rfl, x11.gh, upd_same, gz, hN2, hT2, ok, fun G12 H12 dv x12 hz12 hdv => ⟨rfl, ?_⟩⟩
      have x13 := x11.own x12 fun c hc => .inr (hc ▸ x9.hnone hz)
      have gz12 := x12.fr z (by rw [upd_same]; simp) gz
      have x14 := x13.freeze (x9.hnone hz) gz12 hz12
      refine k _ _ _ x14 ⟨z, dz, _, _, _, rfl, upd_same, ?_, ?_, ?_⟩
      · exact hN2.mono (x12.gg.trans (same_upd gz12))
      · exact Mn.mono (x12.gg.trans (same_upd gz12)) hT2
      · exact Mn.mono (same_upd gz12) hdv
theorem rL_get {α : Type} {R : Rp α} {xs : List α} {v : V} {G : Hp} {i : Nat} {x : α} (h : rL R xs v G) (hi : xs[i]? = some x) : ∃ p vs u, v = .ref p ∧ G p = some (.lst vs) ∧ vs[i]? = some u ∧ R x u G := by
  obtain ⟨p, vs, e, hp, a⟩ := h
  obtain ⟨u, hu, r⟩ := All2.get a hi
  exact ⟨p, vs, u, e, hp, hu, r⟩
def sp_way (K : PySem.W.Frag) : L2.Sp := fun vs H Q _ => ∃ (n r k : Nat) (L : List Lk) (t : List (List Nat)) (p : Addr) (j pl : Nat) (y : List Nat) (G : Hp), vs = [.ref p, nV j, nV pl] ∧ Same G H ∧ DictP n r L t k p G ∧ PlanOk n r L t k ∧ t[j]? = some y ∧ pl < n ∧
  ∀ (G' H' : Hp) (f : Addr), Xt Pu G H G' H' → G' f = some (.lst ((way n r L y pl).map nV)) → Q (.ref f) H'
structure WI (n r : Nat) (L : List Lk) (y : List Nat) (p fp : Addr) (j p0 : Nat) (G H : Hp) (i : Nat) (σ : L2.St) (H1 : Hp) : Prop where
  ex : ∃ (G1 : Hp) (pl : Nat) (acc : List Nat) (o4 o5 : Option V), σ = [some (.ref p), some (nV j), some (nV pl), some (.ref fp), o4, o5, none] ∧ Xt Pu G H G1 H1 ∧ G1 fp = none ∧ H1 fp = some (.lst (acc.map nV)) ∧ pl < n ∧ way n r L y pl ++ acc.reverse = way n r L y p0 ∧ acc.length = i
abbrev N_way : List Str := ["_law_plan_here", "_law_tree_here", "_law_place", "_law_found", "_law_k", "_law_link", "_law_one"]
theorem sc_way : FnScope N_way ["_law_plan_here", "_law_tree_here", "_law_place"] (defScope (topS 62)) := ⟨rfl, rfl, rfl, by decide +kernel, rfl, by decide +kernel, by decide +kernel⟩
theorem ok_way (T : Txt K mg) : Keeps P w K mg base 1 "_law_way" ["_law_plan_here", "_law_tree_here", "_law_place"] (sp_way K) := by
  refine T.d_way.keeps sc_way (fun _ _ _ _ _ _ us hl => match us, hl with | [_, _, _], _ => rfl) (fun vs H Q E h => ?_) (fun cdv A outer s H vs Q E hr h => ?_)
  · obtain ⟨n, r, k', L, t, p, j, p0, y, G, rfl, gh, Dp, ok, hj, hp0, k⟩ := h; rfl
  · have hu := hu_of hr
    obtain ⟨n, r, k', L, t, p, j, p0, y, G, rfl, gh, Dp, ok, hj, hp0, k⟩ := h
    refine ⟨_, (pss_cons (ps_set (i := 3) sc_way.nd rfl (Or.inl rfl) (pe_lst pa_nil))
      (pss_cons (ps_for PassesOwn.never rfl (pi_range1 (by rfl) T.b_range (pa_cons (pe_dget hu (pv 0) pe_str (fun _ _ => rfl)) pa_nil)) (pg_name (i := 4) sc_way.nd rfl (Or.inl rfl))
      (pss_cons (ps_if (pt_cmpR op_eq (pv 2) (pe_dget hu (pv 0) pe_str (fun _ _ => rfl)) (nomark _))
        (pss_one ps_break)
        pss_nil)
        (pss_cons (ps_set (i := 5) sc_way.nd rfl (Or.inl rfl) (pe_ix ix_list (pe_lc (own := [("_law_one", 6)]) (g := gName 6) (by rfl) sc_way.nd (pi_list (pe_ix ix_list (pe_dget hu (pv 0) pe_str (fun _ _ => rfl)) (pv 1) (fun _ _ => rfl))) (blkOk_by (N := N_way) (sc := defScope (topS 62)) (by decide +kernel)) (fun _ _ _ _ _ => pg_name (i := 6) sc_way.nd rfl (Or.inl rfl)) (fun _ _ _ _ _ => (pts_one (pt_cmpR op_eq (pe_ix (ix_tupK (K := K)) (pe_ix (ix_listK (K := K)) (pe_dget hu (pv 0) pe_str (fun _ _ => rfl)) (pv 6) (fun _ _ => rfl)) pe_int (fun _ _ => rfl)) (pv 2) (nomark _)))) (fun _ _ _ _ _ => (pv 6))) pe_int (fun _ _ => rfl)))
        (pss_cons (ps_expr (pe_bm PySem.F.plainAttrs_list PySem.F.slot_list_append PySem.F.type_list_append mt_append (pv 3) (pa_cons (pv 5) pa_nil)))
        (pss_one (ps_set (i := 2) sc_way.nd rfl (Or.inr rfl) (pe_ix ix_tup (pe_ix ix_list (pe_dget hu (pv 0) pe_str (fun _ _ => rfl)) (pv 5) (fun _ _ => rfl)) pe_int (fun _ _ => rfl))))))))
      (pss_one (ps_ret (pe_revL (pv 3)))))), ?_⟩
    have big : (100000 : Nat) ≤ sizeLine := by decide
    have hty := ok.tree y (List.mem_of_getElem? hj)
    obtain ⟨lp, tp, hp, hl, ht⟩ := Dp
    have x0 : Xt Pu G H G H := Xt.refl gh
    have n10 := ok.n10
    refine ⟨by show 0 ≤ _; omega, fun fp hfp => ?_⟩
    have x1 := x0.newM hfp (.lst [])
    refine ⟨_, rfl, p, _, rfl, DGet.k (k := .inr "many") (x1.old hp), (n : Int), rfl, by omega, by omega, for_range (lo := 0) (n := n) (fun i σ H1 => WI n r L y p fp j p0 G H i σ H1) ?_ ?_ ?_⟩
    · exact ⟨G, p0, [], _, _, rfl, x1, x0.gnone hfp, upd_same, hp0, by rw [List.reverse_nil, List.append_nil], rfl⟩
    · rintro i σ H1 hi ⟨G1, pl, acc, o4, o5, rfl, x1, gf, hf, hpl, hw, hal⟩
      refine ⟨_, rfl, _, rfl, p, _, rfl, DGet.k (k := .inr "root") (x1.old hp), rfl, _, rfl, ?_⟩
      rw [nV_dec]
      by_cases e : pl = r
      · subst e
        rw [decide_eq_true rfl]
        refine iteT ?_
        refine ⟨_, rfl, fp, _, rfl, SqL.of hf, fun q hq => ?_⟩
        rw [way_root, List.nil_append] at hw
        refine k _ _ q (x1.new hq _) ?_
        rw [upd_same, ← hw, List.map_reverse]
      · rw [decide_eq_false e]
        refine iteF ?_
        have ws := way_step hty.isT hpl e
        obtain ⟨_, ts, u, e1, htp, hu, hur⟩ := rL_get ht hj
        cases e1
        obtain ⟨yp, rfl, hyp⟩ := rL_nat hur
        refine ⟨_, rfl, p, _, rfl, DGet.k (k := .inr "trees") (x1.old hp), _, rfl, tp, _, _, _, rfl, rfl, SqL.of (x1.old htp), atI_nat hu, yp, rfl, ⟨_, SqL.of (x1.old hyp)⟩, fun D hD => lcL y (fun i => if ((lk L i).2 == pl) = true then some i else none) rN rN x1.gh (x1.gg _ _ hyp) (nat_all2 y) hD ?_ ?_ ?_⟩
        · have := hty.len
          have := List.length_filterMap_le (fun i => if ((lk L i).2 == pl) = true then some i else none) y
          omega
        · rintro j' x _ G2 H2 hx rfl x2 Q1 Q2 k1 k2
          have x12 := x1.trans x2
          obtain ⟨_, ls, ul, e2, hlp, hul, q, ua, ub, rfl, hq, rfl, rfl⟩ := rL_get hl (lk_get (hty.lt x (List.mem_of_getElem? hx)))
          cases e2
          refine ⟨_, rfl, p, _, rfl, DGet.k (k := .inr "links") (x12.old hp), _, rfl, lp, _, _, _, rfl, rfl, SqL.of (x12.old hlp), atI_nat hul, q, _, 1, _, rfl, rfl, SqT.of (x12.old hq), rfl, _, rfl, rfl, _, rfl, ?_⟩
          have e3 : decide (nV (lk L x).2 = nV pl) = ((lk L x).2 == pl) := by rw [nV_dec]; rfl
          show if decide (nV (lk L x).2 = nV pl) = true then _ else _
          rw [e3]
          exact ite2 (fun c => ⟨_, rfl, k2 _ (if_pos c) _ _ _ (Xt.refl x2.gh) rfl⟩) (fun c => k1 (if_neg c) _ _ (Xt.refl x2.gh))
        · rintro G2 H2 acc2 x2 hD2 gD2 a2
          rw [fm_filter] at a2
          obtain ⟨rest, hrest⟩ := ws.fil
          rw [show y.filter (fun i => (lk L i).2 == pl) = up L y pl :: rest from hrest] at a2
          rw [all2_nat a2] at hD2
          have x3 := x1.trans x2
          have hf2 := x2.hh _ _ (fun z => z) hf
          have gf2 := x2.fr fp (by rw [hf]; simp) gf
          refine ⟨D, _, 0, _, rfl, rfl, SqL.of hD2, atI_0, ?_⟩
          refine ⟨_, rfl, .inl ⟨rfl, _, SqL.of hf2⟩, _, rfl, fp, _, _, rfl, rfl, hf2, by rw [List.length_map]; omega, ?_⟩
          have x4 := x3.mut (.inl hfp) gf2 (.lst (acc.map nV ++ [nV (up L y pl)]))
          obtain ⟨_, ls, ul, e2, hlp, hul, q, ua, ub, rfl, hq, rfl, rfl⟩ := rL_get hl (lk_get (hty.lt _ ws.mem))
          cases e2
          refine ⟨_, rfl, p, _, rfl, DGet.k (k := .inr "links") (x4.old hp), _, rfl, lp, _, _, _, rfl, rfl, SqL.of (x4.old hlp), atI_nat hul, q, _, 0, _, rfl, rfl, SqT.of (x4.old hq), rfl, ?_⟩
          refine ⟨G2, (lk L (up L y pl)).1, acc ++ [up L y pl], _, _, rfl, x4, gf2, ?_, ws.lt, ?_, by rw [List.length_append, hal]; rfl⟩
          · rw [upd_same, List.map_append]; rfl
          · rw [← hw, ws.eq, List.reverse_append]; simp
    · rintro σ H1 ⟨G1, pl, acc, o4, o5, rfl, x1, gf, hf, hpl, hw, hal⟩
      have h1 := way_lt hty.isT hp0
      rw [← hw, List.length_append, List.length_reverse] at h1
      omega
end
end Sp
end

section
set_option Elab.async false
set_option linter.all false
set_option maxRecDepth 100000
set_option maxHeartbeats 4000000
/-! Sparetrees: the law's lots, chosen ones, products. -/
namespace Sp
open PySem PySem.Spec PyProof.Rows L2
section
variable {P : Program} {w : World} {K : PySem.W.Frag} {mg : Str → Option Value} {base : Heap}
def sp_lot : L2.Sp := fun vs H Q _ => ∃ (b : Addr) (m s : Nat) (G : Hp), vs = [.ref b, nV m, nV s] ∧ Same G H ∧ Bag b G H ∧ m ≤ 1000 ∧
  ∀ (G' H' : Hp) (f : Addr) (lo : List Nat), Xt (Bg b) G H G' H' → Bag b G' H' → G' f = some (.tup (lo.map nV)) → lo.Pairwise (· < ·) → (∀ x ∈ lo, x < m) → Q (.ref f) H'
abbrev N_lot : List Str := ["_law_bag_here", "_law_most", "_law_share", "_law_k"]
theorem sc_lot : FnScope N_lot ["_law_bag_here", "_law_most", "_law_share"] (defScope (topS 63)) := ⟨rfl, rfl, rfl, by decide +kernel, rfl, by decide +kernel, by decide +kernel⟩
theorem ok_lot (T : Txt K mg) : Keeps P w K mg base 3 "_law_lot" ["_law_bag_here", "_law_most", "_law_share"] (sp_lot) := by
  have G_draw := ok_draw (P := P) (w := w) (base := base) T
  refine T.d_lot.keeps sc_lot (fun _ _ _ _ _ _ us hl => match us, hl with | [_, _, _], _ => rfl) (fun vs H Q E h => ?_) (fun cdv A outer s H vs Q E hr h => ?_)
  · obtain ⟨b, m, s', G, rfl, gh, B, hm, k⟩ := h; rfl
  · have hu := hu_of hr
    obtain ⟨b, m, s', G, rfl, gh, B, hm, k⟩ := h
    refine ⟨_, (pss_one (ps_ret (pe_callTy call_tuple_of (by rfl) T.b_tuple (by decide +kernel) (pa_cons (pe_lc (own := [("_law_k", 3)]) (g := gName 3) (by rfl) sc_lot.nd (pi_range1 (by rfl) T.b_range (pa_cons (pv 1) pa_nil)) (blkOk_by (N := N_lot) (sc := defScope (topS 63)) (by decide +kernel)) (fun _ _ _ _ _ => pg_name (i := 3) sc_lot.nd rfl (Or.inl rfl)) (fun _ _ _ _ _ => (pts_one (pt_cmpR op_lt (pcall G_draw (hr.mono (by decide)) rfl (pa_cons (pv 0) (pa_cons pe_int pa_nil))) (pv 2) (nomark _)))) (fun _ _ _ _ _ => (pv 3))) pa_nil)))), ?_⟩
    have big : (100000 : Nat) ≤ sizeLine := by decide
    refine ⟨_, rfl, (m : Int), rfl, by omega, by omega, fun D hD => ?_⟩
    have Db : D ≠ b := fun z => B.ne (z ▸ hD)
    have x0 : Xt (Bg b) G H G H := Xt.refl gh
    refine lc_range (lo := 0) (n := m) (fun i H' => ∃ lo : List Nat, Xt (Bg b) G H G H' ∧ Bag b G H' ∧ H' D = some (.lst (lo.map nV)) ∧ lo.Pairwise (· < ·) ∧ (∀ x ∈ lo, x < i) ∧ lo.length ≤ i) ?_ ?_ ?_
    · exact ⟨[], x0.newM hD _, B.new hD, upd_same, List.Pairwise.nil, (fun x hx => (List.not_mem_nil hx).elim), Nat.le_refl _⟩
    · rintro i H1 hi ⟨lo, x1, B1, hD1, h1, h2, h3⟩
      refine ⟨wipe_set, ?_⟩
      refine ⟨_, rfl, b, 12, G, rfl, x1.gh, B1, by decide, by decide, fun H2 d x2 B2 hd => ?_⟩
      have x12 := x1.trans x2
      have hD2 := x2.hh _ _ Db hD1
      refine ⟨_, rfl, _, _, rfl, rfl, _, rfl, ite2 (fun q => ?_) (fun q => ?_)⟩
      · refine ⟨_, rfl, _, hD2, by rw [List.length_map]; omega, lo ++ [i], x12.mut (.inl hD) (x0.gnone hD) _, B2.upd Db, ?_, ?_, ?_, ?_⟩
        · rw [upd_same, List.map_append]
          show some (HO.lst (lo.map nV ++ [V.int (0 + (i : Int))])) = _
          rw [Int.zero_add]; rfl
        · refine List.pairwise_append.mpr ⟨h1, by simp, fun a ha c hc => ?_⟩
          rw [List.mem_singleton.mp hc]; exact h2 a ha
        · intro x hx
          rcases List.mem_append.mp hx with h | h
          · have := h2 x h; omega
          · rw [List.mem_singleton.mp h]; omega
        · rw [List.length_append, List.length_singleton]; omega
      · exact ⟨lo, x12, B2, hD2, h1, fun x hx => by have := h2 x hx; omega, by omega⟩
    · rintro H1 ⟨lo, x1, B1, hD1, h1, h2, h3⟩
      refine ⟨D, _, rfl, .inl ⟨SqL.of hD1, fun f hf => ?_⟩⟩
      exact k _ _ f lo (x1.new hf _) (B1.newG hf (x1.gnone hf)) upd_same h1 h2
def sp_chosen : L2.Sp := fun vs H Q _ => ∃ (p : Addr) (xs : List Nat) (c : Nat) (G : Hp), vs = [.ref p, nV c] ∧ Same G H ∧ G p = some (.lst (xs.map nV)) ∧ xs.length ≤ 12 ∧
  ∀ (G' H' : Hp) (f : Addr), Xt Pu G H G' H' → rL (rT rN) (chosen xs c) (.ref f) G' → Q (.ref f) H'
abbrev N_chosen : List Str := ["_law_things", "_law_many", "_law_found", "_law_thing", "_law_some"]
theorem sc_chosen : FnScope N_chosen ["_law_things", "_law_many"] (defScope (topS 64)) := ⟨rfl, rfl, rfl, by decide +kernel, rfl, by decide +kernel, by decide +kernel⟩
theorem ok_chosen (T : Txt K mg) : Keeps P w K mg base 1 "_law_chosen" ["_law_things", "_law_many"] (sp_chosen) := by
  refine T.d_chosen.keeps sc_chosen (fun _ _ _ _ _ _ us hl => match us, hl with | [_, _], _ => rfl) (fun vs H Q E h => ?_) (fun cdv A outer s H vs Q E hr h => ?_)
  · obtain ⟨p, xs, c, G, rfl, gh, hp, hxl, k⟩ := h; rfl
  · have hu := hu_of hr
    obtain ⟨p, xs, c, G, rfl, gh, hp, hxl, k⟩ := h
    refine ⟨_, (pss_cons (ps_set (i := 2) sc_chosen.nd rfl (Or.inl rfl) (pe_lst (pa_cons (pe_tup pa_nil) pa_nil)))
      (pss_cons (ps_for PassesOwn.never rfl (pi_list (pv 0)) (pg_name (i := 3) sc_chosen.nd rfl (Or.inr rfl))
      (pss_one (ps_set (i := 2) sc_chosen.nd rfl (Or.inl rfl) (pe_op op_cat (pv 2) (pe_lc (own := [("_law_some", 4)]) (g := gName 4) (by rfl) sc_chosen.nd (pi_list (pv 2)) (blkOk_by (N := N_chosen) (sc := defScope (topS 64)) (by decide +kernel)) (fun _ _ _ _ _ => pg_name (i := 4) sc_chosen.nd rfl (Or.inl rfl)) (fun _ _ _ _ _ => (pts_one (pt_cmpR op_lt (pe_callB (call_len_seqK (K := K)) (by rfl) T.b_len (by decide +kernel) (pa_cons (pv 4) pa_nil)) (pv 1) (nomark _)))) (fun _ _ _ _ _ => (pe_op (op_catAK (K := K)) (pv 4) (pe_tup (pa_cons (pv 3) pa_nil)))))))))
      (pss_one (ps_ret (pe_lc (own := [("_law_some", 4)]) (g := gName 4) (by rfl) sc_chosen.nd (pi_list (pv 2)) (blkOk_by (N := N_chosen) (sc := defScope (topS 64)) (by decide +kernel)) (fun _ _ _ _ _ => pg_name (i := 4) sc_chosen.nd rfl (Or.inl rfl)) (fun _ _ _ _ _ => (pts_one (pt_cmpR op_eq (pe_callB (call_len_seqK (K := K)) (by rfl) T.b_len (by decide +kernel) (pa_cons (pv 4) pa_nil)) (pv 1) (nomark _)))) (fun _ _ _ _ _ => (pv 4))))))), ?_⟩
    have big : (100000 : Nat) ≤ sizeLine := by decide
    have x0 : Xt Pu G H G H := Xt.refl gh
    refine ⟨by show 0 ≤ _; omega, fun e0 he0 => ⟨by show 1 ≤ _; omega, fun f0 hf0 => ?_⟩⟩
    have y0 := ((x0.new he0 (.tup [])).new hf0 (.lst [.ref e0]))
    refine ⟨_, rfl, p, rfl, ⟨_, SqL.of (y0.old hp)⟩, for_list (xs := xs.map nV) (fun i σ H1 => ∃ (G1 : Hp) (fp : Addr) (o3 : Option V), σ = [some (.ref p), some (nV c), some (.ref fp), o3, none] ∧ Xt Pu G H G1 H1 ∧ rL (rT rN) (rows c (xs.take i)) (.ref fp) G1) ?_ ?_ ?_ ?_⟩
    · have he : (upd (upd G e0 (.tup [])) f0 (.lst [.ref e0])) e0 = some (.tup []) := by
        rw [upd_ne (ne_of_none (o := .tup []) upd_same hf0)]; exact upd_same
      exact ⟨_, f0, _, rfl, y0, f0, [.ref e0], rfl, upd_same, .one ⟨e0, [], rfl, he, .nil⟩⟩
    · rintro i σ H1 _ ⟨G1, fp, o3, rfl, x1, _⟩
      exact SqL.of (x1.old hp)
    · rintro i xv σ H1 hi ⟨G1, fp, o3, rfl, x1, hf⟩
      rw [List.getElem?_map] at hi
      obtain ⟨x, hx, rfl⟩ := Option.map_eq_some_iff.mp hi
      obtain ⟨_, fs, e, hfp, hfs⟩ := hf
      cases e
      have rl : ∀ i, (rows c (xs.take i)).length ≤ 4096 := fun i => by
        refine Nat.le_trans (rows_len c _) ?_
        have h : (xs.take i).length ≤ 12 := by rw [List.length_take]; omega
        exact Nat.le_trans (Nat.pow_le_pow_right (by decide) h) (by decide)
      have rl1 := rl i
      have rl2 := rl (i + 1)
      have step : rows c (xs.take (i + 1)) = rows c (xs.take i) ++ ((rows c (xs.take i)).filter fun s => decide (s.length < c)).map (· ++ [x]) := by
        rw [take_step hx, rows_snoc]
      have efm : ∀ ys : List (List Nat), ys.filterMap (fun s => if decide (s.length < c) = true then some (s ++ [x]) else none) = (ys.filter fun s => decide (s.length < c)).map (· ++ [x]) := by
        intro ys
        induction ys with
        | nil => rfl
        | cons y ys ih =>
          rw [List.filterMap_cons, List.filter_cons, ih]
          by_cases h : decide (y.length < c) = true
          · rw [if_pos h, if_pos h]; rfl
          · rw [if_neg h, if_neg h]
      refine ⟨_, rfl, _, rfl, fp, rfl, ⟨_, SqL.of (x1.gh _ _ hfp)⟩, fun D hD => lcL (rows c (xs.take i)) (fun s => if decide (s.length < c) = true then some (s ++ [x]) else none) (rT rN) (rT rN) x1.gh hfp hfs hD ?_ ?_ ?_⟩
      · have := List.length_filterMap_le (fun s : List Nat => if decide (s.length < c) = true then some (s ++ [x]) else none) (rows c (xs.take i))
        omega
      · rintro j s u G2 H2 hs hu x2 Q1 Q2 k1 k2
        obtain ⟨sp, rfl, hsp⟩ := rT_nat hu
        have hsl : s.length ≤ 12 := by
          have := ((rows_mem c _ s).mp (List.mem_of_getElem? hs)).1.length_le
          rw [List.length_take] at this; omega
        refine ⟨_, rfl, sp, _, rfl, .inr (SqT.of (x2.gh _ _ hsp)), _, rfl, _, _, rfl, rfl, _, rfl, ?_⟩
        have ed : decide ((((s.map nV).length : Nat) : Int) < (c : Int)) = decide (s.length < c) := by
          rw [List.length_map]
          by_cases h : s.length < c
          · rw [decide_eq_true h]; apply decide_eq_true; omega
          · rw [decide_eq_false h]; apply decide_eq_false; omega
        rw [ed]
        refine ite2 (fun q => ?_) (fun q => k1 (if_neg q) _ _ (Xt.refl x2.gh))
        have k2' := k2 _ (if_pos q)
        refine ⟨_, rfl, _, rfl, by show 1 ≤ _; omega, fun u hu => ?_⟩
        have x6 := (Xt.refl (m := Pu) x2.gh).new hu (.tup [nV x])
        refine ⟨sp, u, _, _, rfl, rfl, SqT.of (x6.old hsp), SqT.of upd_same, ?_, ?_, ?_, ?_⟩
        · rw [List.length_map]; show _ + 1 ≤ _; omega
        · intro e
          have : s = [] := List.map_eq_nil_iff.mp e
          subst this
          exact k2' _ _ _ x6 ⟨u, _, rfl, upd_same, nat_all2 [x]⟩
        · intro _ e; cases e
        · intro _ _ b hb
          refine k2' _ _ _ (x6.new hb _) (nat_rT (p := b) ?_)
          rw [upd_same, List.map_append]; rfl
      · rintro G2 H2 acc x2 hD2 gD2 hacc
        rw [efm] at hacc
        have hall : All2 (rT rN) G2 (rows c (xs.take (i + 1))) (fs ++ acc) := by
          rw [step]; exact (All2.mono x2.gg hfs).app hacc
        refine ⟨fp, D, _, _, rfl, rfl, x2.old hfp, hD2, ?_, fun q hq => ?_⟩
        · have := hall.len
          rw [List.length_append] at this
          omega
        · exact ⟨_, q, _, rfl, (x1.trans x2).new hq _, q, _, rfl, upd_same, All2.mono (same_upd (x2.gnone hq)) hall⟩
    · rintro σ H1 ⟨G1, fp, o3, rfl, x1, hf⟩
      rw [List.length_map, List.take_length] at hf
      obtain ⟨_, fs, e, hfp, hfs⟩ := hf
      cases e
      have rl : (rows c xs).length ≤ 4096 := by
        refine Nat.le_trans (rows_len c _) ?_
        exact Nat.le_trans (Nat.pow_le_pow_right (by decide) hxl) (by decide)
      refine ⟨_, rfl, fp, rfl, ⟨_, SqL.of (x1.gh _ _ hfp)⟩, fun D hD => lcL (rows c xs) (fun s => if decide (s.length = c) = true then some s else none) (rT rN) (rT rN) x1.gh hfp hfs hD ?_ ?_ ?_⟩
      · have := List.length_filterMap_le (fun s : List Nat => if decide (s.length = c) = true then some s else none) (rows c xs)
        omega
      · rintro j s u G2 H2 hs hu x2 Q1 Q2 k1 k2
        have hu0 := hu
        obtain ⟨sp, rfl, hsp⟩ := rT_nat hu
        refine ⟨_, rfl, sp, _, rfl, .inr (SqT.of (x2.gh _ _ hsp)), _, rfl, rfl, _, rfl, ?_⟩
        show if decide (nV (s.map nV).length = nV c) = true then _ else _
        rw [nV_dec, List.length_map]
        exact ite2 (fun q => ⟨_, rfl, k2 _ (if_pos q) _ _ _ (Xt.refl x2.gh) hu0⟩) (fun q => k1 (if_neg q) _ _ (Xt.refl x2.gh))
      · rintro G2 H2 acc x2 hD2 gD2 hacc
        rw [fm_filter] at hacc
        exact k _ _ D (x1.trans (x2.freeze hD gD2 hD2)) ⟨D, _, rfl, upd_same, All2.mono (same_upd gD2) hacc⟩
def sp_product (K : PySem.W.Frag) : L2.Sp := fun vs H Q _ => ∃ (n r k : Nat) (L : List Lk) (t : List (List Nat)) (p : Addr) (pl : Nat) (G : Hp), vs = [.ref p, nV pl] ∧ Same G H ∧ DictP n r L t k p G ∧ PlanOk n r L t k ∧ pl < n ∧
  ∀ (G' H' : Hp), Xt Pu G H G' H' → Q (nV (prN n r L t pl)) H'
abbrev N_product : List Str := ["_law_plan_here", "_law_place", "_law_found", "_law_tree_here"]
theorem sc_product : FnScope N_product ["_law_plan_here", "_law_place"] (defScope (topS 66)) := ⟨rfl, rfl, rfl, by decide +kernel, rfl, by decide +kernel, by decide +kernel⟩
theorem ok_product (T : Txt K mg) : Keeps P w K mg base 2 "_law_product" ["_law_plan_here", "_law_place"] (sp_product K) := by
  have G_way := ok_way (P := P) (w := w) (base := base) T
  refine T.d_product.keeps sc_product (fun _ _ _ _ _ _ us hl => match us, hl with | [_, _], _ => rfl) (fun vs H Q E h => ?_) (fun cdv A outer s H vs Q E hr h => ?_)
  · obtain ⟨n, r, k', L, t, p, pl, G, rfl, gh, Dp, ok, hpl, k⟩ := h; rfl
  · have hu := hu_of hr
    obtain ⟨n, r, k', L, t, p, pl, G, rfl, gh, Dp, ok, hpl, k⟩ := h
    refine ⟨_, (pss_cons (ps_set (i := 2) sc_product.nd rfl (Or.inl rfl) pe_int)
      (pss_cons (ps_for PassesOwn.never rfl (pi_range1 (by rfl) T.b_range (pa_cons (pe_callB call_len_seq (by rfl) T.b_len (by decide +kernel) (pa_cons (pe_dget hu (pv 0) pe_str (fun _ _ => rfl)) pa_nil)) pa_nil)) (pg_name (i := 3) sc_product.nd rfl (Or.inl rfl))
      (pss_one (ps_set (i := 2) sc_product.nd rfl (Or.inl rfl) (pe_op op_mul (pv 2) (pe_op op_add pe_int (pe_callB call_len_seq (by rfl) T.b_len (by decide +kernel) (pa_cons (pcall G_way (hr.mono (by decide)) rfl (pa_cons (pv 0) (pa_cons (pv 3) (pa_cons (pv 1) pa_nil)))) pa_nil)))))))
      (pss_one (ps_ret (pv 2))))), ?_⟩
    have Dp0 := Dp
    obtain ⟨lp, tp, hp, hl, ⟨_, ts, e, htp, hts⟩⟩ := Dp
    cases e
    have m12 := ok.m12
    refine ⟨_, rfl, p, _, rfl, DGet.k (k := .inr "trees") (gh _ _ hp), tp, _, rfl, .inl (SqL.of (gh _ _ htp)), _, rfl, ?_⟩
    rw [hts.len]
    refine ⟨by omega, by omega, for_range (lo := 0) (n := t.length) (fun i σ H1 => ∃ (G1 : Hp) (o : Option V), σ = [some (.ref p), some (nV pl), some (nV (prd ((t.map fun y => (way n r L y pl).length).take i))), o] ∧ Xt Pu G H G1 H1) ⟨G, _, rfl, Xt.refl gh⟩ ?_ ?_⟩
    · rintro i σ H1 hi ⟨G1, o, rfl, x1⟩
      have hi2 : t[i]? = some t[i] := List.getElem?_eq_getElem hi
      refine ⟨_, rfl, _, rfl, _, rfl, _, rfl, n, r, k', L, t, p, i, pl, t[i], G1, ?_, x1.gh, DictP.mono x1.gg Dp0, ok, hi2, hpl, fun G2 H2 f x2 hf => ?_⟩
      · show [_, V.int (0 + (i : Int)), _] = _
        rw [Int.zero_add]
      refine ⟨f, _, rfl, .inl (SqL.of (x2.gh _ _ hf)), _, _, rfl, rfl, _, _, rfl, rfl, .inr ?_, G2, some (.int (0 + (i : Int))), ?_, x1.trans x2⟩
      · have := way_lt (ok.tree t[i] (List.getElem_mem hi)).isT hpl
        have := ok.n10
        rw [List.length_map]
        constructor <;> omega
      · have e : (t.map fun y => (way n r L y pl).length).take (i + 1) = (t.map fun y => (way n r L y pl).length).take i ++ [(way n r L t[i] pl).length] := by
          rw [List.take_add_one, List.getElem?_map, hi2]; rfl
        rw [e]
        unfold prd
        rw [List.foldl_append, List.length_map]
        show [_, _, _, _] = _
        simp only [List.foldl_cons, List.foldl_nil, Int.natCast_mul, Int.natCast_add]
        rw [Int.add_comm]
        rfl
    · rintro σ H1 ⟨G1, o, rfl, x1⟩
      have e : (t.map fun y => (way n r L y pl).length).take t.length = t.map fun y => (way n r L y pl).length := by
        rw [← List.length_map (f := fun y => (way n r L y pl).length), List.take_length]
      rw [e]
      exact ⟨_, rfl, k _ _ x1⟩
end
end Sp
end

section
set_option Elab.async false
set_option linter.all false
set_option maxRecDepth 100000
set_option maxHeartbeats 4000000
/-! Sparetrees: the law's stops. -/
namespace Sp
open PySem PySem.Spec PyProof.Rows L2
theorem rgV_nat (m : Nat) : rgV 0 (m : Int) = (List.range m).map nV := by
  unfold rgV
  rw [show ((m : Int) - 0).toNat = m by omega]
  exact List.map_congr_left fun i _ => by show V.int (0 + (i : Int)) = V.int (i : Int); rw [Int.zero_add]
section
variable {P : Program} {w : World} {K : PySem.W.Frag} {mg : Str → Option Value} {base : Heap}
def sp_lstops (K : PySem.W.Frag) : L2.Sp := fun vs H Q _ => ∃ (n r k : Nat) (L : List Lk) (t : List (List Nat)) (p : Addr) (pl : Nat) (G : Hp), vs = [.ref p, nV pl] ∧ Same G H ∧ DictP n r L t k p G ∧ PlanOk n r L t k ∧ pl < n ∧ prN n r L t pl ≤ 20000 ∧
  ∀ (G' H' : Hp) (f : Addr) (S : List (List Nat)), Xt Pu G H G' H' → StopsL (ways n r L t pl) (t.length + 1 - k) S → rL (rT rN) S (.ref f) G' → Q (.ref f) H'
abbrev N_lstops : List Str := ["_law_plan_here", "_law_place", "_law_ways", "_law_found", "_law_some", "_law_lots", "_law_tree_here", "_law_longer", "_law_lot_here", "_law_link"]
theorem sc_lstops : FnScope N_lstops ["_law_plan_here", "_law_place"] (defScope (topS 65)) := ⟨rfl, rfl, rfl, by decide +kernel, rfl, by decide +kernel, by decide +kernel⟩
theorem ok_lstops (T : Txt K mg) : Keeps P w K mg base 2 "_law_stops" ["_law_plan_here", "_law_place"] (sp_lstops K) := by
  have G_way := ok_way (P := P) (w := w) (base := base) T
  have G_chosen := ok_chosen (P := P) (w := w) (base := base) T
  refine T.d_stops'.keeps sc_lstops (fun _ _ _ _ _ _ us hl => match us, hl with | [_, _], _ => rfl) (fun vs H Q E h => ?_) (fun cdv A outer s H vs Q E hr h => ?_)
  · obtain ⟨n, r, k', L, t, p, pl, G, rfl, gh, Dp, ok, hpl, hprd, k⟩ := h; rfl
  · have hu := hu_of hr
    obtain ⟨n, r, k', L, t, p, pl, G, rfl, gh, Dp, ok, hpl, hprd, k⟩ := h
    refine ⟨_, (pss_cons (ps_setLc (i := 2) (own := [("_law_tree_here", 6)]) (g := gName 6) (tt := tYes) (by rfl) sc_lstops.nd rfl rfl (sw_true rfl rfl rfl (by decide +kernel)) (pi_range1 (by rfl) T.b_range (pa_cons (pe_callB call_len_seq (by rfl) T.b_len (by decide +kernel) (pa_cons (pe_dget hu (pv 0) pe_str (fun _ _ => rfl)) pa_nil)) pa_nil)) (blkOk_by (N := N_lstops) (sc := defScope (topS 65)) (by decide +kernel)) (fun _ _ _ _ _ => pg_name (i := 6) sc_lstops.nd rfl (Or.inl rfl)) (fun _ _ _ _ _ => pts_nil) (fun _ _ _ _ _ => (pcall G_way (hr.mono (by decide)) rfl (pa_cons (pv 0) (pa_cons (pv 6) (pa_cons (pv 1) pa_nil))))))
      (pss_cons (ps_set (i := 3) sc_lstops.nd rfl (Or.inl rfl) (pe_lst pa_nil))
      (pss_cons (ps_for PassesOwn.never rfl (pi_list (pcall G_chosen (hr.mono (by decide)) rfl (pa_cons (pe_listRg rfl (by rfl) T.b_list (prg_1 (by rfl) T.b_range (pe_callB call_len_seq (by rfl) T.b_len (by decide +kernel) (pa_cons (pv 2) pa_nil)))) (pa_cons (pe_op op_add (pe_op op_sub (pe_callB call_len_seq (by rfl) T.b_len (by decide +kernel) (pa_cons (pv 2) pa_nil)) (pe_dget hu (pv 0) pe_str (fun _ _ => rfl))) pe_int) pa_nil)))) (pg_name (i := 4) sc_lstops.nd rfl (Or.inl rfl))
      (pss_cons (ps_set (i := 5) sc_lstops.nd rfl (Or.inl rfl) (pe_lst (pa_cons (pe_tup pa_nil) pa_nil)))
        (pss_cons (ps_for PassesOwn.never rfl (pi_tup (pv 4)) (pg_name (i := 6) sc_lstops.nd rfl (Or.inl rfl))
        (pss_cons (ps_set (i := 7) sc_lstops.nd rfl (Or.inl rfl) (pe_lst pa_nil))
          (pss_cons (ps_for PassesOwn.never rfl (pi_list (pv 5)) (pg_name (i := 8) sc_lstops.nd rfl (Or.inr rfl))
          (pss_one (ps_expr (pe_bm PySem.F.plainAttrs_list PySem.F.slot_list_extend PySem.F.type_list_extend mt_extend (pv 7) (pa_cons (pe_lc (own := [("_law_link", 9)]) (g := gName 9) (tt := tYes) (by rfl) sc_lstops.nd (pi_list (pe_ix ix_list (pv 2) (pv 6) (fun _ _ => rfl))) (blkOk_by (N := N_lstops) (sc := defScope (topS 65)) (by decide +kernel)) (fun _ _ _ _ _ => pg_name (i := 9) sc_lstops.nd rfl (Or.inl rfl)) (fun _ _ _ _ _ => pts_nil) (fun _ _ _ _ _ => (pe_op (op_catAK (K := K)) (pv 8) (pe_tup (pa_cons (pv 9) pa_nil))))) pa_nil)))))
          (pss_one (ps_set (i := 5) sc_lstops.nd rfl (Or.inl rfl) (pv 7))))))
        (pss_one (ps_expr (pe_bm PySem.F.plainAttrs_list PySem.F.slot_list_extend PySem.F.type_list_extend mt_extend (pv 3) (pa_cons (pe_lc (own := [("_law_lot_here", 8)]) (g := gName 8) (tt := tYes) (by rfl) sc_lstops.nd (pi_list (pv 5)) (blkOk_by (N := N_lstops) (sc := defScope (topS 65)) (by decide +kernel)) (fun _ _ _ _ _ => pg_name (i := 8) sc_lstops.nd rfl (Or.inl rfl)) (fun _ _ _ _ _ => pts_nil) (fun _ _ _ _ _ => (pe_callTy (call_tuple_ofK (K := K)) (by rfl) T.b_tuple (by decide +kernel) (pa_cons (pe_callB (cr_sortITK (K := K)) (by rfl) T.b_sorted (by decide +kernel) (pa_cons (pv 8) pa_nil)) pa_nil)))) pa_nil)))))))
      (pss_one (ps_ret (pe_callB cr_sortTT (by rfl) T.b_sorted (by decide +kernel) (pa_cons (pv 3) pa_nil))))))), ?_⟩
    have big : (100000 : Nat) ≤ sizeLine := by decide
    have Dp0 := Dp
    obtain ⟨lp, tp, hp, hl, ⟨_, ts, e, htp, hts⟩⟩ := Dp
    cases e
    have m1 := ok.m1; have m12 := ok.m12; have k1 := ok.k1; have km := ok.km
    have wlen : (ways n r L t pl).length = t.length := List.length_map _
    have lens : (ways n r L t pl).map List.length = t.map fun y => (way n r L y pl).length := by rw [List.map_map]; rfl
    have tot : PS1 ((ways n r L t pl).map List.length) ≤ 20000 := by
      rw [lens, ← prd_eq]; exact hprd
    have ewr : (List.range t.length).map (fun j => (ways n r L t pl).getD j []) = ways n r L t pl := by
      conv => rhs; rw [← range_get (ways n r L t pl)]
      rw [wlen]
    refine ⟨_, rfl, p, _, rfl, DGet.k (k := .inr "trees") (gh _ _ hp), tp, _, rfl, .inl (SqL.of (gh _ _ htp)), ?_⟩
    rw [hts.len]
    refine ⟨_, rfl, by omega, by omega, fun D hD => lcRm t.length (fun j => (ways n r L t pl).getD j []) (rL rN) gh hD (by omega) ?_ ?_⟩
    · rintro j x _ G1 H1 hx rfl x1 Q2 k2
      have hxt : x < t.length := List.mem_range.mp (List.mem_of_getElem? hx)
      have ex : (ways n r L t pl).getD x [] = way n r L t[x] pl := by
        rw [List.getD_eq_getElem?_getD, List.getElem?_map, List.getElem?_eq_getElem hxt]; rfl
      refine ⟨_, rfl, _, rfl, _, rfl, n, r, k', L, t, p, x, pl, t[x], G1, rfl, x1.gh, DictP.mono x1.gg Dp0, ok, List.getElem?_eq_getElem hxt, hpl, fun G2 H2 f x2 hf => k2 _ _ _ x2 (nat_rL ?_)⟩
      show G2 f = some (.lst (((ways n r L t pl).getD x []).map nV))
      rw [ex]; exact hf
    · rintro G1 H1 ws x1 hD1 gD hws
      rw [ewr] at hws
      have x2 := x1.freeze hD gD hD1
      have hws2 : All2 (rL rN) (upd G1 D (.lst ws)) (ways n r L t pl) ws := All2.mono (same_upd gD) hws
      have hD2 : (upd G1 D (.lst ws)) D = some (.lst ws) := upd_same
      generalize upd G1 D (.lst ws) = Gw at x2 hws2 hD2
      have ews : ws.length = t.length := by rw [hws.len, wlen]
      refine ⟨by show 0 ≤ _; omega, fun fp hfp => ?_⟩
      have x3 := x2.newM hfp (.lst [])
      have gf3 := x2.gnone hfp
      have fp0 := x2.hnone hfp
      refine ⟨_, rfl, D, _, rfl, .inl (SqL.of (x3.gh _ _ hD2)), _, rfl, RgOk.of_le (by decide) (by omega) (by decide) (by omega), fun q hq => ?_⟩
      rw [ews, rgV_nat]
      have x4 := x3.new hq (.lst ((List.range t.length).map nV))
      have fq : fp ≠ q := fun z => by rw [← z, upd_same] at hq; cases hq
      refine ⟨_, rfl, D, _, rfl, .inl (SqL.of (x4.gh _ _ ((same_upd (x3.gnone hq)) _ _ hD2))), _, rfl, p, _, rfl, DGet.k (k := .inr "size") (x4.old hp), _, _, rfl, rfl, _, _, rfl, rfl, ?_⟩
      refine ⟨q, List.range t.length, t.length + 1 - k', _, ?_, x4.gh, upd_same, by rw [List.length_range]; exact m12, fun G5 H5 cf x5 hcf => ?_⟩
      · rw [ews]
        show [V.ref q, V.int ((t.length : Int) - (k' : Int) + 1)] = [V.ref q, V.int ((t.length + 1 - k' : Nat) : Int)]
        congr 2; congr 1; omega
      obtain ⟨_, chv, e, hcv, hch⟩ := hcf
      cases e
      have x6 := x4.trans x5
      have hf5 : H5 fp = some (.lst []) := x5.hh _ _ (fun z => z) (by rw [upd_ne fq]; exact upd_same)
      have gf5 : G5 fp = none := x5.fr fp (by rw [upd_ne fq, upd_same]; simp) (by rw [upd_ne fq]; exact gf3)
      have sGw : Same Gw G5 := (same_upd (x3.gnone hq)).trans x5.gg
      have chmem : ∀ a ∈ chosen (List.range t.length) (t.length + 1 - k'), a.Sublist (List.range t.length) ∧ a.length = t.length + 1 - k' := fun a ha => (combs_mem _ _ _).mp ((chosen_perm _ _ List.nodup_range).mem_iff.mp ha)
      have chraw : (rawOf ((chosen (List.range t.length) (t.length + 1 - k')).map (pickW (ways n r L t pl)))).Perm (raw (ways n r L t pl) (t.length + 1 - k')) := by
        unfold raw
        rw [combs_W, wlen]
        exact rawOf_perm ((chosen_perm _ _ List.nodup_range).map _)
      refine ⟨cf, rfl, ⟨_, SqL.of (x5.gh _ _ hcv)⟩, for_list (xs := chv) (fun i σ H6 => ∃ (G6 : Hp) (acc : List V) (o4 o5 o6 o7 o8 : Option V), σ = [some (.ref p), some (nV pl), some (.ref D), some (.ref fp), o4, o5, o6, o7, o8, none] ∧ Xt (fun c => c = fp) G5 H5 G6 H6 ∧ G6 fp = none ∧
        H6 fp = some (.lst acc) ∧ All2 (rT rN) G6 (rawOf (((chosen (List.range t.length) (t.length + 1 - k')).map (pickW (ways n r L t pl))).take i)) acc) ?_ ?_ ?_ ?_⟩
      · exact ⟨G5, [], _, _, _, _, _, rfl, Xt.refl x5.gh, gf5, hf5, .nil⟩
      · rintro i σ H6 _ ⟨G6, acc, o4, o5, o6, o7, o8, rfl, x7, _⟩
        exact SqL.of (x7.old hcv)
      · rintro i av σ H6 hi ⟨G6, acc, o4, o5, o6, o7, o8, rfl, x7, gf, hf, ha⟩
        obtain ⟨a, hia, ap, as, rfl, hap, has⟩ := All2.getV hch hi
        rw [all2_nat has] at hap
        have ham := chmem a (List.mem_of_getElem? hia)
        have hal : ∀ j ∈ a, j < t.length := fun j hj => List.mem_range.mp (ham.1.subset hj)
        have hCsub : (pickW (ways n r L t pl) a).Sublist (ways n r L t pl) := by
          have := ham.1.map fun j => (ways n r L t pl).getD j []
          rwa [ewr] at this
        have hCtot : PS1 ((pickW (ways n r L t pl) a).map List.length) ≤ 20000 := Nat.le_trans (PS1_sub (hCsub.map _)) tot
        have alen : a.length ≤ 12 := by rw [ham.2]; omega
        have hwl : ∀ y ∈ pickW (ways n r L t pl) a, y.length ≤ 10 := fun z hz => by
          obtain ⟨q, hq, rfl⟩ := List.mem_map.mp (hCsub.subset hz)
          have := way_lt (ok.tree q hq).isT hpl
          have := ok.n10; omega
        refine ⟨by show 0 ≤ _; omega, fun e0 he0 => ⟨by show 1 ≤ _; omega, fun f0 hf0 => ?_⟩⟩
        have y0 := ((Xt.refl (m := Pu) x7.gh).new he0 (.tup [])).new hf0 (.lst [.ref e0])
        refine ⟨_, rfl, ap, rfl, ⟨_, SqT.of (y0.old (x7.gg _ _ hap))⟩, for_tup (xs := a.map nV) (fun i σ H1 => ∃ (G1 : Hp) (lf : Addr) (o6 o7 o8 : Option V), σ = [some (.ref p), some (nV pl), some (.ref D), some (.ref fp), some (.ref ap), some (.ref lf), o6, o7, o8, none] ∧ Xt Pu G6 H6 G1 H1 ∧ rL (rT rN) (prods ((pickW (ways n r L t pl) a).take i)) (.ref lf) G1) ?_ ?_ ?_ ?_⟩
        · have he : (upd (upd G6 e0 (.tup [])) f0 (.lst [.ref e0])) e0 = some (.tup []) := by
            rw [upd_ne (ne_of_none (o := .tup []) upd_same hf0)]; exact upd_same
          exact ⟨_, f0, _, _, _, rfl, y0, f0, [.ref e0], rfl, upd_same, .one ⟨e0, [], rfl, he, .nil⟩⟩
        · rintro i σ H1 _ ⟨G1, lf, o6, o7, o8, rfl, z1, _⟩
          exact SqT.of (z1.old (x7.gg _ _ hap))
        · rintro ii jv σ H8 hi8 ⟨G8, lf, o6, o7, o8, rfl, z1, hlf⟩
          rw [List.getElem?_map] at hi8
          obtain ⟨jj, hjj, rfl⟩ := Option.map_eq_some_iff.mp hi8
          have hjt := hal jj (List.mem_of_getElem? hjj)
          have hwy : (pickW (ways n r L t pl) a)[ii]? = some ((ways n r L t pl).getD jj []) := by rw [List.getElem?_map, hjj]; rfl
          obtain ⟨wy, ewy⟩ : ∃ wy, wy = (ways n r L t pl).getD jj [] := ⟨_, rfl⟩
          rw [← ewy] at hwy
          have hwl8 : wy.length ≤ 10 := hwl wy (List.mem_of_getElem? hwy)
          have hwg : (ways n r L t pl)[jj]? = some wy := by
            have h1 : jj < (ways n r L t pl).length := by omega
            rw [List.getElem?_eq_getElem h1, ewy, List.getD_eq_getElem?_getD, List.getElem?_eq_getElem h1]; rfl
          obtain ⟨wv, hwv, hwr⟩ := All2.get hws2 hwg
          obtain ⟨wp, rfl, hwp⟩ := rL_nat hwr
          obtain ⟨_, fs, e, hfp8, hfs⟩ := hlf
          cases e
          have totp : prods ((pickW (ways n r L t pl) a).take (ii + 1)) = (prods ((pickW (ways n r L t pl) a).take ii)).flatMap fun x => wy.map fun l => x ++ [l] := by
            rw [take_step hwy, prods_snoc]
          have totl : (prods ((pickW (ways n r L t pl) a).take (ii + 1))).length ≤ 20000 := Nat.le_trans (prods_pre _ (ii + 1)) hCtot
          refine ⟨by show 0 ≤ _; omega, fun gp hgp => ?_⟩
          have sG : Same Gw G8 := sGw.trans (x7.gg.trans z1.gg)
          refine ⟨_, rfl, lf, rfl, ⟨_, SqL.of (((Xt.refl (m := Pu) z1.gh).newM hgp (.lst [])).old hfp8)⟩, for_list (xs := fs) (fun j σ H3 => ∃ (G3 : Hp) (acc : List V) (o8 : Option V), σ = [some (.ref p), some (nV pl), some (.ref D), some (.ref fp), some (.ref ap), some (.ref lf), some (nV jj), some (.ref gp), o8, none] ∧ Xt Pu G8 H8 G3 H3 ∧ G3 gp = none ∧
            H3 gp = some (.lst acc) ∧ All2 (rT rN) G3 (((prods ((pickW (ways n r L t pl) a).take ii)).take j).flatMap fun x => wy.map fun l => x ++ [l]) acc) ?_ ?_ ?_ ?_⟩
          · exact ⟨G8, [], _, rfl, (Xt.refl z1.gh).newM hgp _, (Xt.refl (m := Pu) z1.gh).gnone hgp, upd_same, .nil⟩
          · rintro j σ H3 _ ⟨G3, acc, o8, rfl, x3, _⟩
            exact SqL.of (x3.old hfp8)
          · rintro j xv σ H3 hj ⟨G3, acc3, o8, rfl, x3, gl, hl3, ha3⟩
            obtain ⟨x, hx, xp, xs, rfl, hxp, hxs⟩ := All2.getV hfs hj
            rw [all2_nat hxs] at hxp
            have hxl : x.length ≤ 12 := by
              have := ((prods_mem _ _).mp (List.mem_of_getElem? hx)).1
              rw [this, List.length_take, List.length_map]; omega
            refine ⟨_, rfl, .inl ⟨rfl, _, SqL.of hl3⟩, _, rfl, _, rfl, D, _, _, _, rfl, rfl, SqL.of (x3.old (sG _ _ hD2)), atI_nat hwv, wp, rfl, ⟨_, SqL.of (x3.old (sG _ _ hwp))⟩, fun D5 hD5 => lcLm wy (fun l => x ++ [l]) rN (rT rN) x3.gh (x3.gg _ _ (sG _ _ hwp)) (nat_all2 wy) hD5 (by omega) ?_ ?_⟩
            · rintro z l _ G5 H5 hz rfl x5 Q2 k2
              refine ⟨_, rfl, _, rfl, by show 1 ≤ _; omega, fun u hu => ?_⟩
              have x6 := (Xt.refl (m := Pu) x5.gh).new hu (.tup [nV l])
              refine ⟨xp, u, _, _, rfl, rfl, SqT.of (x6.old ((x3.gg.trans x5.gg) _ _ hxp)), SqT.of upd_same, ?_, ?_, ?_, ?_⟩
              · rw [List.length_map]; show _ + 1 ≤ _; omega
              · intro e
                have : x = [] := List.map_eq_nil_iff.mp e
                subst this
                exact k2 _ _ _ x6 ⟨u, _, rfl, upd_same, nat_all2 [l]⟩
              · intro _ e; cases e
              · intro _ _ b hb
                refine k2 _ _ _ (x6.new hb _) (nat_rT (p := b) ?_)
                rw [upd_same, List.map_append]; rfl
            · rintro G5 H5 acc5 x5 hD5' gD5 ha5
              have hl5 := x5.hh _ _ (fun z => z) hl3
              have step : (((prods ((pickW (ways n r L t pl) a).take ii)).take (j + 1)).flatMap fun x => wy.map fun l => x ++ [l]) = (((prods ((pickW (ways n r L t pl) a).take ii)).take j).flatMap fun x => wy.map fun l => x ++ [l]) ++ wy.map fun l => x ++ [l] := by
                rw [take_step hx, List.flatMap_append]; simp
              have ha6 : All2 (rT rN) G5 (((prods ((pickW (ways n r L t pl) a).take ii)).take (j + 1)).flatMap fun x => wy.map fun l => x ++ [l]) (acc3 ++ acc5) := by
                rw [step]; exact (All2.mono x5.gg ha3).app ha5
              refine ⟨gp, D5, _, _, rfl, rfl, hl5, hD5', ?_, ?_⟩
              · have h1 := ha6.len
                rw [List.length_append] at h1
                have h2 := flatMap_take_le (fun x => wy.map fun l => x ++ [l]) (prods ((pickW (ways n r L t pl) a).take ii)) (j + 1)
                rw [← totp] at h2
                omega
              · have gl5 := x5.fr gp (by rw [hl3]; simp) gl
                exact ⟨G5, _, _, rfl, (x3.trans x5).mut (.inl hgp) gl5 _, gl5, upd_same, ha6⟩
          · rintro σ H3 ⟨G3, acc3, o8, rfl, x3, gl, hl3, ha3⟩
            rw [hfs.len, List.take_length, ← totp] at ha3
            exact ⟨_, rfl, _, gp, _, _, _, rfl, z1.trans (x3.freeze hgp gl hl3), gp, acc3, rfl, upd_same, All2.mono (same_upd gl) ha3⟩
        · rintro σ H8 ⟨G8, lf, o6, o7, o8, rfl, z1, hlf⟩
          have htk : (pickW (ways n r L t pl) a).take (a.map nV).length = pickW (ways n r L t pl) a := List.take_of_length_le (by rw [List.length_map, List.length_map]; exact Nat.le_refl _)
          rw [htk] at hlf
          obtain ⟨_, fs, e, hfl, hfs⟩ := hlf
          cases e
          have hf8 := z1.hh _ _ (fun z => z) hf
          have hpl8 : (prods (pickW (ways n r L t pl) a)).length ≤ 20000 := by
            rw [prods_len]
            exact Nat.le_trans (PL_le _) hCtot
          refine ⟨_, rfl, .inl ⟨rfl, _, SqL.of hf8⟩, _, rfl, lf, rfl, ⟨_, SqL.of (z1.gh _ _ hfl)⟩, fun E hE => lcLm (prods (pickW (ways n r L t pl) a)) srt (rT rN) (rT rN) z1.gh hfl hfs hE (by omega) ?_ ?_⟩
          · rintro z l u G9 H9 hz hu x9 Q2 k2
            obtain ⟨lp2, rfl, hlp2⟩ := rT_nat hu
            rw [map_nV] at hlp2
            refine ⟨_, rfl, lp2, keyN l, rfl, SqT.of (x9.gh _ _ hlp2), fun ns' q hper hsrt hq => ?_⟩
            have e := sort_nat hper hsrt
            subst e
            have x8 := (Xt.refl (m := Pu) x9.gh).newM hq (.lst ((keyN (srt l)).map V.int))
            refine ⟨q, _, rfl, .inl ⟨SqL.of upd_same, fun b hb => ?_⟩⟩
            refine k2 _ _ _ (x8.new hb _) (nat_rT (p := b) ?_)
            rw [upd_same, map_nV]
          · rintro G9 H9 acc9 x9 hE9 gE9 ha9
            have z2 := z1.trans x9
            have hf9 := x9.hh _ _ (fun z => z) hf8
            have gf9 : G9 fp = none := z2.fr fp (by rw [hf]; simp) gf
            have hia2 : ((chosen (List.range t.length) (t.length + 1 - k')).map (pickW (ways n r L t pl)))[i]? = some (pickW (ways n r L t pl) a) := by rw [List.getElem?_map, hia]; rfl
            have ha10 : All2 (rT rN) G9 (rawOf (((chosen (List.range t.length) (t.length + 1 - k')).map (pickW (ways n r L t pl))).take (i + 1))) (acc ++ acc9) := by
              rw [take_step hia2]
              unfold rawOf
              rw [List.flatMap_append]
              refine (All2.mono z2.gg ha).app ?_
              simpa using ha9
            refine ⟨fp, E, _, _, rfl, rfl, hf9, hE9, ?_, ?_⟩
            · have h1 := ha10.len
              rw [List.length_append] at h1
              have h2 := rawOf_take ((chosen (List.range t.length) (t.length + 1 - k')).map (pickW (ways n r L t pl))) (i + 1)
              have h3 := raw_len (ways n r L t pl) (t.length + 1 - k')
              rw [← chraw.length_eq] at h3
              omega
            · exact ⟨G9, _, _, _, _, _, _, rfl, (x7.trans z2.pu).mut (.inr rfl) gf9 _, gf9, upd_same, ha10⟩
      · rintro σ H6 ⟨G6, acc, o4, o5, o6, o7, o8, rfl, x7, gf, hf, ha⟩
        have e : ((chosen (List.range t.length) (t.length + 1 - k')).map (pickW (ways n r L t pl))).take chv.length = (chosen (List.range t.length) (t.length + 1 - k')).map (pickW (ways n r L t pl)) := List.take_of_length_le (by rw [List.length_map, hch.len]; exact Nat.le_refl _)
        rw [e] at ha
        have x8 : Xt Pu G H G6 H6 := x6.own x7 fun c hc => .inr (hc ▸ fp0)
        refine ⟨_, rfl, fp, acc, kOf G6, rfl, SqL.of hf, ?_, fun ys q hper hpw hq => ?_⟩
        · intro u hu
          obtain ⟨l, hl, hr⟩ := all2_mem ha hu
          rw [kOf_eq hr]
          obtain ⟨lp2, rfl, hlp2⟩ := rT_nat hr
          rw [map_nV] at hlp2
          refine ⟨lp2, rfl, SqT.of (x7.gh _ _ hlp2), ?_⟩
          rw [List.length_map, raw_length (chraw.mem_iff.mp hl)]; omega
        · obtain ⟨S, hS1, hS2⟩ := all2_perm hper ha
          exact k _ _ q S (x8.new hq (.lst ys)) ⟨hS1.trans chraw, all2_lexd hS2 hpw⟩ ⟨q, ys, rfl, upd_same, All2.mono (same_upd (x8.gnone hq)) hS2⟩
end
end Sp
end

section
set_option Elab.async false
set_option linter.all false
set_option maxRecDepth 100000
set_option maxHeartbeats 4000000
/-! Sparetrees: data compared; the least lots tried. -/
namespace Sp
open PySem PySem.Spec PyProof.Rows L2
/-! ### data -/
abbrev dN (n : Nat) : PyData := .int (n : Int)
abbrev dT (x : List Nat) : PyData := .tuple (x.map dN)
abbrev dS (S : List (List Nat)) : PyData := .list (S.map dT)
section
variable {K : PySem.W.Frag} {G H : Hp}
theorem dp_nats : ∀ x : List Nat, DpAll K H (x.map nV) (x.map dN)
  | [] => .nil
  | n :: x => .cons (.int _) (dp_nats x)
theorem dp_T (s : Same G H) {x : List Nat} {v : V} (h : rT rN x v G) : Dp K H v (dT x) := by
  obtain ⟨p, rfl, hp⟩ := rT_nat h
  exact .tup (SqT.of (s _ _ hp)) (dp_nats x)
theorem dp_Ts (s : Same G H) : ∀ {S : List (List Nat)} {vs : List V}, All2 (rT rN) G S vs → DpAll K H vs (S.map dT)
  | _, _, .nil => .nil
  | _, _, .cons r t => .cons (dp_T s r) (dp_Ts s t)
theorem dp_S (s : Same G H) {S : List (List Nat)} {v : V} (h : rL (rT rN) S v G) : Dp K H v (dS S) := by
  obtain ⟨p, vs, rfl, hp, a⟩ := h
  exact .lst (SqL.of (s _ _ hp)) (dp_Ts s a)
theorem lay_N : ∀ x : List Nat, PyData.canLayAll0 (x.map dN) = true ∧ PyData.depthAll (x.map dN) = 0
  | [] => ⟨by simp [PyData.canLayAll0], by simp [PyData.depthAll]⟩
  | n :: x => by
    obtain ⟨h1, h2⟩ := lay_N x
    exact ⟨by simp [PyData.canLayAll0, PyData.canLay0, h1], by simp [PyData.depthAll, PyData.depth, h2]⟩
theorem lay_T (x : List Nat) : (dT x).canLay0 = true ∧ (dT x).depth = 1 := by
  obtain ⟨h1, h2⟩ := lay_N x
  exact ⟨by simp [PyData.canLay0, h1], by simp [PyData.depth, h2]⟩
theorem lay_Ts : ∀ S : List (List Nat), PyData.canLayAll0 (S.map dT) = true ∧ PyData.depthAll (S.map dT) ≤ 1
  | [] => ⟨by simp [PyData.canLayAll0], by simp [PyData.depthAll]⟩
  | x :: S => by
    obtain ⟨h1, h2⟩ := lay_Ts S
    obtain ⟨h3, h4⟩ := lay_T x
    refine ⟨?_, ?_⟩
    · rw [List.map_cons, PyData.canLayAll0, h3, h1]; rfl
    · rw [List.map_cons, PyData.depthAll, h4]; omega
theorem lay_S (S : List (List Nat)) : (dS S).canLay0 = true ∧ (dS S).depth ≤ 2 := by
  obtain ⟨h1, h2⟩ := lay_Ts S
  exact ⟨by rw [PyData.canLay0]; exact h1, by rw [PyData.depth]; omega⟩
theorem shaped_of {d : PyData} (h : d.canLay0 = true) (h2 : d.depth ≤ 64) : SeqAt.shaped d = true := by
  unfold SeqAt.shaped
  rw [h, decide_eq_true h2]; rfl
theorem told_lay {d : PyData} {z : Str} (h : d.canLay0 = true) (h2 : d.depth ≤ 10) (hz : PyData.canLay0 (.str z) = true) : SeqAt.shaped (.tuple [.str z, d]) = true ∧ (PyData.tuple [.str z, d]).canLay0 = true := by
  have h3 : (PyData.tuple [.str z, d]).canLay0 = true := by
    rw [PyData.canLay0, PyData.canLayAll0, PyData.canLayAll0, PyData.canLayAll0, h, hz]; rfl
  refine ⟨shaped_of h3 ?_, h3⟩
  rw [PyData.depth, PyData.depthAll, PyData.depthAll, PyData.depthAll]
  have : (PyData.str z).depth = 0 := by rw [PyData.depth]
  omega
end
theorem stop_iff {n r : Nat} {L : List Lk} {t : List (List Nat)} {k p : Nat} {lo : List Nat} (hk : k ≤ t.length) : stopB n r L t k p lo = true ↔ t.length + 1 - k ≤ cut (ways n r L t p) lo := by
  unfold stopB cutN
  rw [decide_eq_true_iff]; omega
theorem ways_disj {n r : Nat} {L : List Lk} {t : List (List Nat)} {k p : Nat} (ok : PlanOk n r L t k) (hp : p < n) : Disj (ways n r L t p) := by
  refine disj_of ok.apart (List.length_map _) fun i l hl => ?_
  rw [List.getD_eq_getElem?_getD, List.getElem?_map] at hl
  rw [List.getD_eq_getElem?_getD]
  cases h : t[i]? with
  | none => rw [h] at hl; cases hl
  | some y =>
    rw [h] at hl
    exact way_mem (ok.tree y (List.mem_of_getElem? h)).isT hp l hl
theorem lot_lt {n r : Nat} {L : List Lk} {t : List (List Nat)} {k p : Nat} {S : List (List Nat)} {x : List Nat} (ok : PlanOk n r L t k) (hp : p < n) (hS : StopsL (ways n r L t p) (t.length + 1 - k) S) (hx : x ∈ S) : ∀ l ∈ x, l < L.length := fun l hl => by
  obtain ⟨w, hw, hlw⟩ := raw_in (hS.perm.mem_iff.mp hx) l hl
  obtain ⟨y, hy, rfl⟩ := List.mem_map.mp hw
  exact (ok.tree y hy).lt l (way_mem (ok.tree y hy).isT hp l hlw)
theorem mem_stopped {n : Nat} {f : Nat → Bool} {p : Nat} (hp : p < n) : (p ∈ (List.range n).filter f) ↔ f p = true := by
  rw [List.mem_filter, List.mem_range]; exact ⟨fun h => h.2, fun h => ⟨hp, h⟩⟩
section
variable {P : Program} {w : World} {K : PySem.W.Frag} {mg : Str → Option Value} {base : Heap}
def sp_are_least (K : PySem.W.Frag) : L2.Sp := fun vs H Q _ => ∃ (b : Addr) (n r k : Nat) (L : List Lk) (t : List (List Nat)) (v : V) (pl : Nat) (f : Addr) (S : List (List Nat)) (G : Hp), vs = [.ref b, v, nV pl, .ref f] ∧ Same G H ∧ Bag b G H ∧ PlanP K n r L t k v G ∧ PlanOk n r L t k ∧ pl < n ∧ pl ≠ r ∧ prN n r L t pl ≤ 20000 ∧
  StopsL (ways n r L t pl) (t.length + 1 - k) S ∧ rL (rT rN) S (.ref f) G ∧ ∀ (G' H' : Hp), Xt (Bg b) G H G' H' → Bag b G' H' → Q (.bl true) H'
abbrev N_are_least : List Str := ["_law_bag_here", "_law_made_here", "_law_place", "_law_told_here", "_law_k", "_law_lot_here", "_law_at"]
theorem sc_are_least : FnScope N_are_least ["_law_bag_here", "_law_made_here", "_law_place", "_law_told_here"] (defScope (topS 68)) := ⟨rfl, rfl, rfl, by decide +kernel, rfl, by decide +kernel, by decide +kernel⟩
theorem ok_are_least (T : Txt K mg) : Keeps P w K mg base 12 "_law_are_least" ["_law_bag_here", "_law_made_here", "_law_place", "_law_told_here"] (sp_are_least K) := by
  have G_draw := ok_draw (P := P) (w := w) (base := base) T
  have G_stopped := ok_stopped (P := P) (w := w) (base := base) T
  refine T.d_are_least.keeps sc_are_least (fun _ _ _ _ _ _ us hl => match us, hl with | [_, _, _, _], _ => rfl) (fun vs H Q E h => ?_) (fun cdv A outer s H vs Q E hr h => ?_)
  · obtain ⟨b, n, r, k', L, t, v, pl, f, S, G, rfl, gh, B, N, ok, hpl, hplr, hprd, hS, hf, k⟩ := h; rfl
  · have hu := hu_of hr
    obtain ⟨b, n, r, k', L, t, v, pl, f, S, G, rfl, gh, B, N, ok, hpl, hplr, hprd, hS, hf, k⟩ := h
    refine ⟨_, (pss_cons (ps_for PassesOwn.never rfl (pi_range1 (by rfl) T.b_range (pa_cons (pe_callB (call_min2 rfl) (by rfl) T.b_min (by decide +kernel) (pa_cons pe_int (pa_cons (pe_callB call_len_seq (by rfl) T.b_len (by decide +kernel) (pa_cons (pv 3) pa_nil)) pa_nil))) pa_nil)) (pg_name (i := 4) sc_are_least.nd rfl (Or.inl rfl))
      (pss_cons (ps_set (i := 5) sc_are_least.nd rfl (Or.inl rfl) (pe_ix ix_list (pv 3) (pcall G_draw (hr.mono (by decide)) rfl (pa_cons (pv 0) (pa_cons (pe_callB call_len_seq (by rfl) T.b_len (by decide +kernel) (pa_cons (pv 3) pa_nil)) pa_nil))) (fun _ _ => rfl)))
        (pss_cons (ps_if (pt_cmpR op_notIn_seq (pv 2) (pcall G_stopped (hr.mono (by decide)) rfl (pa_cons (pv 1) (pa_cons (pv 5) pa_nil))) (by rfl))
        (pss_one (ps_ret pe_bl))
        pss_nil)
        (pss_cons (ps_set (i := 6) sc_are_least.nd rfl (Or.inl rfl) (pcall G_draw (hr.mono (by decide)) rfl (pa_cons (pv 0) (pa_cons (pe_callB call_len_seq (by rfl) T.b_len (by decide +kernel) (pa_cons (pv 5) pa_nil)) pa_nil))))
        (pss_one (ps_if (pt_cmpR op_in_seq (pv 2) (pcall G_stopped (hr.mono (by decide)) rfl (pa_cons (pv 1) (pa_cons (pe_op op_catA (pe_slice sl_tupA (pv 5) po_none (po_some (pv 6))) (pe_slice sl_tupA (pv 5) (po_some (pe_op op_add (pv 6) pe_int)) po_none)) pa_nil))) (by rfl))
        (pss_one (ps_ret pe_bl))
        pss_nil))))))
      (pss_one (ps_ret pe_bl))), ?_⟩
    have big : (100000 : Nat) ≤ sizeLine := by decide
    obtain ⟨_, fs, e, hfp, hfs⟩ := hf
    cases e
    have Sl : S.length ≤ 20000 := by
      rw [hS.perm.length_eq]
      refine Nat.le_trans (raw_len _ _) ?_
      rw [List.map_map, ← prd_eq]; exact hprd
    obtain ⟨x0, S0, eS⟩ := stops_ne ok hpl hplr hS
    have Spos : 0 < S.length := by rw [eS]; exact Nat.succ_pos _
    have D := ways_disj ok hpl
    have km := ok.km; have k1 := ok.k1
    refine ⟨_, rfl, f, _, rfl, .inl (SqL.of (gh _ _ hfp)), 4, _, rfl, ?_⟩
    rw [hfs.len]
    obtain ⟨zn, hzn⟩ : ∃ zn : Nat, (if (S.length : Int) < 4 then (S.length : Int) else 4) = (zn : Int) ∧ zn ≤ 4 := by
      by_cases h : (S.length : Int) < 4
      · exact ⟨S.length, by rw [if_pos h], by omega⟩
      · exact ⟨4, by rw [if_neg h]; rfl, by omega⟩
    rw [hzn.1]
    refine ⟨_, rfl, by omega, by omega, for_range (lo := 0) (n := zn) (fun i σ H1 => ∃ (G1 : Hp) (o4 o5 o6 : Option V), σ = [some (.ref b), some v, some (nV pl), some (.ref f), o4, o5, o6] ∧ Xt (Bg b) G H G1 H1 ∧ Bag b G1 H1) ⟨G, _, _, _, rfl, Xt.refl gh, B⟩ ?_ ?_⟩
    · rintro i σ H1 hi ⟨G1, o4, o5, o6, rfl, x1, B1⟩
      refine ⟨_, rfl, _, rfl, _, rfl, f, _, rfl, .inl (SqL.of (x1.old hfp)), b, S.length, G1, by rw [hfs.len]; rfl, x1.gh, B1, Spos, by omega, fun H2 d x2 B2 hd => ?_⟩
      have x12 := x1.trans x2
      obtain ⟨u, hu, hur⟩ := All2.get hfs (List.getElem?_eq_getElem hd)
      have hxS := List.getElem_mem hd
      generalize S[d] = x at hur hxS
      obtain ⟨xp, rfl, hxp⟩ := rT_nat hur
      refine ⟨f, _, (d : Int), _, rfl, rfl, SqL.of (x12.old hfp), atI_nat hu, ?_⟩
      have hraw := hS.perm.mem_iff.mp hxS
      have asc := raw_asc D hraw
      have lts := lot_lt ok hpl hS hxS
      have xlen : x.length ≤ 12 := by rw [raw_length hraw]; have := ok.m12; omega
      have xpos : 0 < x.length := by rw [raw_length hraw]; omega
      refine ⟨_, rfl, _, rfl, _, rfl, n, r, L, t, k', v, xp, x, G1, rfl, x12.gh, N.mono x12.gg, ok, x12.gg _ _ hxp, asc, lts, fun G3 H3 sf x3 hsf => ?_⟩
      refine ⟨sf, _, rfl, .inr (SqT.of (x3.gh _ _ hsf)), rfl, flat_nat _, _, rfl, ?_⟩
      rw [show (if true = true then !inV (nV pl) (((List.range n).filter fun p => stopB n r L t k' p x).map nV) else inV (nV pl) (((List.range n).filter fun p => stopB n r L t k' p x).map nV)) = !inV (nV pl) (((List.range n).filter fun p => stopB n r L t k' p x).map nV) from rfl, inV_nat,
        decide_eq_true ((mem_stopped hpl).mpr ((stop_iff km).mpr (raw_full hraw)))]
      refine iteF ?_
      have x13 := x12.trans x3.pu
      have B3 := B2.pu x3
      refine ⟨_, rfl, _, rfl, xp, _, rfl, .inr (SqT.of (x13.old hxp)), b, x.length, G3, by rw [List.length_map]; rfl, x13.gh, B3, xpos, by omega, fun H4 at_ x4 B4 hat => ?_⟩
      have x14 := x13.trans x4
      -- without one
      have fin : ∀ (q : Addr) (G5 H5 : Hp), Xt Pu G3 H4 G5 H5 → G5 q = some (.tup ((x.eraseIdx at_).map nV)) → sp_stopped K [v, .ref q] H5 (fun y H' => ∃ p xs, y = .ref p ∧ (SqL K H' p xs ∨ SqT K H' p xs) ∧ flatV (nV pl) = true ∧ xs.all flatV = true ∧ ∃ kk, (V.bl (if false = true then !inV (nV pl) xs else inV (nV pl) xs)) = .bl kk ∧ if kk = true then Q (.bl false) H' else ∃ (G1 : Hp) (o4 o5 o6 : Option V), [some (.ref b), some v, some (nV pl), some (.ref f), some (V.int (0 + (i : Int))), some (.ref xp), some (nV at_)] = [some (.ref b), some v, some (nV pl), some (.ref f), o4, o5, o6] ∧ Xt (Bg b) G H G1 H' ∧ Bag b G1 H') E0 := by
        intro q G5 H5 x5 hq
        have x15 := x14.trans x5.pu
        refine ⟨n, r, L, t, k', v, q, x.eraseIdx at_, G5, rfl, x15.gh, N.mono x15.gg, ok, hq, asc.sublist (List.eraseIdx_sublist _ _), fun l hl => lts l ((List.eraseIdx_sublist _ _).subset hl), fun G6 H6 sf2 x6 hsf2 => ?_⟩
        refine ⟨sf2, _, rfl, .inr (SqT.of (x6.gh _ _ hsf2)), rfl, flat_nat _, _, rfl, ?_⟩
        have hno : ¬ pl ∈ (List.range n).filter fun p => stopB n r L t k' p (x.eraseIdx at_) := fun z => by
          have h1 := (stop_iff km).mp ((mem_stopped (f := fun p => stopB n r L t k' p (x.eraseIdx at_)) hpl).mp z)
          have h2 := raw_less D hraw hat
          omega
        rw [show (if false = true then !inV (nV pl) (((List.range n).filter fun p => stopB n r L t k' p (x.eraseIdx at_)).map nV) else inV (nV pl) (((List.range n).filter fun p => stopB n r L t k' p (x.eraseIdx at_)).map nV)) = inV (nV pl) (((List.range n).filter fun p => stopB n r L t k' p (x.eraseIdx at_)).map nV) from rfl, inV_nat, decide_eq_false hno]
        exact iteF ⟨G6, _, _, _, rfl, x15.trans x6.pu, (B4.pu x5).pu x6⟩
      have cat : ∀ (H9 : Hp), Xt (Bg b) G H G3 H9 → Bag b G3 H9 → True := fun _ _ _ => trivial
      have hxp4 := x14.old hxp
      refine ⟨_, rfl, _, rfl, _, rfl, _, rfl, (at_ : Int), rfl, xp, _, rfl, SqT.of hxp4, fun z => ?_, fun _ p1 hp1 => ?_⟩
      · have z2 := z.2
        rw [HT.sIx_nat, List.length_map] at z2
        omega
      have e1 : cutV (x.map nV) none (some (at_ : Int)) = (x.take at_).map nV := by
        unfold cutV
        rw [HT.sIx_nat, HT.sIx_none, List.drop_zero, Nat.sub_zero, List.length_map, Nat.min_eq_left (by omega), List.map_take]
      rw [e1]
      have y1 := (Xt.refl (m := Pu) x14.gh).new hp1 (.tup ((x.take at_).map nV))
      have hxp5 := y1.old (x3.gg _ _ (x12.gg _ _ hxp))
      refine ⟨_, rfl, _, rfl, _, _, rfl, rfl, (at_ : Int) + 1, rfl, xp, _, rfl, SqT.of hxp5, fun z => ?_, fun _ p2 hp2 => ?_⟩
      · have z1 := z.1
        rw [show ((at_ : Int) + 1) = ((at_ + 1 : Nat) : Int) from rfl, HT.sIx_nat, List.length_map] at z1
        omega
      have e2 : cutV (x.map nV) (some ((at_ : Int) + 1)) none = (x.drop (at_ + 1)).map nV := by
        unfold cutV
        rw [show ((at_ : Int) + 1) = ((at_ + 1 : Nat) : Int) from rfl, HT.sIx_nat, HT.sIx_none, List.length_map, Nat.min_eq_left (by omega), List.take_of_length_le (by rw [List.length_drop, List.length_map]; omega), List.map_drop]
      rw [e2]
      have y2 := y1.new hp2 (.tup ((x.drop (at_ + 1)).map nV))
      have p12 : p1 ≠ p2 := fun z => by rw [← z, upd_same] at hp2; cases hp2
      have g1 : (upd (upd G3 p1 (.tup ((x.take at_).map nV))) p2 (.tup ((x.drop (at_ + 1)).map nV))) p1 = some (.tup ((x.take at_).map nV)) := by rw [upd_ne p12]; exact upd_same
      have eer : x.eraseIdx at_ = x.take at_ ++ x.drop (at_ + 1) := List.eraseIdx_eq_take_drop_succ _ _
      refine ⟨p1, p2, _, _, rfl, rfl, SqT.of (y2.gh _ _ g1), SqT.of upd_same, ?_, fun ea => ?_, fun _ eb => ?_, fun _ _ q hq => ?_⟩
      · rw [List.length_map, List.length_map, List.length_take, List.length_drop]; omega
      · have ea2 := List.map_eq_nil_iff.mp ea
        exact fin p2 _ _ y2 (by rw [upd_same, eer, ea2, List.nil_append])
      · have eb2 := List.map_eq_nil_iff.mp eb
        exact fin p1 _ _ y2 (by rw [g1, eer, eb2, List.append_nil])
      · exact fin q _ _ (y2.new hq _) (by rw [upd_same, eer, List.map_append])
    · rintro σ H1 ⟨G1, o4, o5, o6, rfl, x1, B1⟩
      exact k _ _ x1 B1
end
end Sp
end

section
set_option Elab.async false
set_option linter.all false
set_option maxRecDepth 100000
set_option maxHeartbeats 4000000
/-! Sparetrees: the law's told. -/
namespace Sp
open PySem PySem.Spec PyProof.Rows L2
/-- isinstance(e, c), e the exception that the suite holds, with a dict of its own -/
def rIsX (K : PySem.W.Frag) (D a : Addr) (cls : Value) (d : Option Addr) : List V → Hp → VK → Prop := fun xs H Q => ∃ (c : V) (cv : Value) (b : Bool) (dd : Addr) (fs : List (Str × V)), xs = [.ref a, c] ∧ cls = .ref D ∧ d = some dd ∧ H dd = some (.xd fs) ∧
  (∀ u, RelV c u → u = cv) ∧ PySem.W.kitOne K (.ref D) cv = some b ∧ Q (.bl b) H
theorem call_isX {X : Cx} {a D : Addr} {oe : Obj} {cls : Value} {d : Option Addr} {pn : List (Addr × Obj)} (C : ExcC X.K D) (hz : Zc cls d oe) (hf : ∃ vs, oe.data = .fields vs) : CallR (X.suite a ((a, oe) :: pn)) (.builtin "isinstance") (rIsX X.K D a cls d) := by
  intro pins s σ H xs us Q I r h
  obtain ⟨c, cv, b, dd, fs, rfl, rfl, rfl, ea, hcv, e, q⟩ := h
  cases r with
  | cons rx rr =>
    cases rr with
    | cons rt rr =>
      cases rr
      cases rx
      have ec := hcv _ rt
      subst ec
      obtain ⟨ha, _⟩ := I.pin (a, oe) (List.mem_append.mpr (.inl List.mem_cons_self))
      obtain ⟨vs, hd⟩ := hf
      have hx : ObjOk X.prog X.w H s.heap dd (.xd fs) := I.hok dd _ ea
      obtain ⟨mA, hns, hr⟩ := hx
      obtain ⟨od, ho, hl⟩ := lookIn_ns hns
      have J : PySem.W.InstAt s.heap a oe D (some od) := ⟨ha, hz.1, by unfold PySem.W.notCls; rw [hd] <;> rfl, by rw [hz.2]; exact ho⟩
      have hcl : (PySem.W.clsIn X.K D).isSome = true := by
        obtain ⟨cd, hc, _⟩ := PySem.W.any_some C.hd
        rw [hc]; rfl
      exact PySem.W.kia_one (PySem.W.kitx_exc hcl C.hg C.hk C.hs C.ha C.hn C.ht C.hm) I.kIn J e (fun z => nomatch z) fun tk => ⟨.bl b, H, I.kept (t' := tk) fun _ _ z => z, rfl, q⟩
theorem Takes.lenI {X : Cx} {W : WX} (t : L2.Takes X W) : L2.Takes X (fun c d σ H => σ.length = X.N.length → W c d σ H) := fun u s' ⟨a, B, sI, pins, σ, H, cls, d, e, I, nb, up, sky, na, os, ag, w⟩ =>
  t u s' ⟨a, B, sI, pins, σ, H, cls, d, e, I, nb, up, sky, na, os, ag, w I.len⟩
abbrev N_told : List Str := ["_law_call", "_law_found", "e"]
theorem sc_told : FnScope N_told ["_law_call"] (defScope (topS 67)) := ⟨rfl, rfl, rfl, by decide +kernel, rfl, by decide +kernel, by decide +kernel⟩
/-- what _law_told makes of the lambda's reading -/
def TTold (K : PySem.W.Frag) : (XK → Hp → VK → Prop) → Hp → VK → Prop := fun tl H Q =>
  tl (fun cls d H' => cls = .ref (He.ga K "TooMany") ∧ ∃ dd, d = some dd ∧ H' dd = some (.xd [("most", .int 20000)]) ∧ ∀ p, H' p = none → Q (.ref p) (upd H' p (.tup [.str "many", .int 20000, .bl true]))) H (fun v H' => 2 ≤ sizeLine ∧ ∀ p, H' p = none → ∃ u : V, (some (some (V.ref p)) : Option (Option V)) = some (some u) ∧ Q u (upd H' p (.tup [.str "told", v])))
theorem told_gives {X : Cx} {g : Addr} {cdg : Value} {q : Str} (T : Txt X.K X.mg) : LamX.GivesTo X N_told "_law_told" (defScope (topS 67)) g cdg (defBody (topS 67)) "_law_call" q (TTold X.K) := by
  intro f c' s H Q tl act hc h
  have xf : XfC X.K (He.ga X.K "TooMany") := ⟨T.tmE.hg, T.tmE.hk, T.tmE.hs, T.tmE.hd⟩
  refine ⟨_, pss_cons (ps_try_as (X := (cxOf C8.CX0 X.prog X.w X.K X.mg X.base N_told "_law_told" (defScope (topS 67)) g cdg X.A X.stack s H C8.E0).nox) (i := 2) (c := .ref (He.ga X.K "TooMany"))
      (tb := fun W D σ H => ∃ Ech : XK, (∀ cls d σ' H', Ech cls d H' → σ'.length = 3 → W cls d σ' H') ∧ tAsg (tTup (tCons (tC (.str "told")) (tCons (fun σZ HZ Q => σZ[0]? = some (some (.ref f)) ∧ HZ c' = some (LamX.CodeO c' q) ∧ tl Ech HZ Q) tNil))) (gName 1) D σ H)
      (ts := fun a cls d => tAsg (tTup (tCons (tC (.str "many")) (tCons (tXf a cls d (He.ga X.K "TooMany") "most" (tVar 2)) (tCons (tCB (rIsX X.K (He.ga X.K "TooMany") a cls d) (tCons (tVar 2) (tCons (tC (.ref (He.ga X.K "TreeError"))) tNil))) tNil)))) (gName 1))
      rfl rfl sc_told.nd rfl rfl ⟨rfl, rfl, .inl T.tm_g⟩ LamX.takes0 (fun W pn xe tk _ => ?_) (fun a oe cls d pn hz hf => ?_)) (pss_one (ps_ret (pv 1))), ?_⟩
  · refine ⟨fun pins s' σ H' D I h' => ?_⟩
    obtain ⟨Ech, hW, h1⟩ := h'
    refine PSs.run (t := tAsg (tTup (tCons (tC (.str "told")) (tCons (fun σZ HZ Q => σZ[0]? = some (some (.ref f)) ∧ HZ c' = some (LamX.CodeO c' q) ∧ tl Ech HZ Q) tNil))) (gName 1)) ?_ pins s' σ H' D I h1
    exact pss_one (ps_set (i := 1) sc_told.nd rfl (Or.inl rfl) (pe_tup (pa_cons pe_str (pa_cons (act _ pn xe Ech _ _ (Takes.lenI tk) hW) pa_nil))))
  · exact pss_one (ps_set (i := 1) sc_told.nd rfl (Or.inl rfl) (pe_tup (pa_cons pe_str (pa_cons (pe_xf xf T.tm_most hz hf (pv 2)) (pa_cons (pe_callB (call_isX T.tmE hz hf) (by rfl) T.b_isinstance (by decide +kernel) (pa_cons (pv 2) (pa_cons (pe_glob (v := .ref (He.ga X.K "TreeError")) rfl T.te_g rfl) pa_nil))) pa_nil)))))
  · refine ⟨fun cls d H' => cls = .ref (He.ga X.K "TooMany") ∧ ∃ dd, d = some dd ∧ H' dd = some (.xd [("most", .int 20000)]) ∧ ∀ p, H' p = none → Q (.ref p) (upd H' p (.tup [.str "many", .int 20000, .bl true])), ?_, rfl, hc, ?_⟩
    · rintro cls d σ' H' ⟨rfl, dd, rfl, hdd, k⟩ hlen
      obtain ⟨u0, u1, u2, rfl⟩ : ∃ u0 u1 u2, σ' = [u0, u1, u2] := by
        match σ', hlen with
        | [u0, u1, u2], _ => exact ⟨u0, u1, u2, rfl⟩
      refine ⟨true, T.tm_same, fun _ a ha => ?_, fun z => Bool.noConfusion z⟩
      refine ⟨_, rfl, rfl, rfl, dd, _, _, rfl, hdd, rfl, ?_⟩
      refine ⟨_, rfl, _, _, true, dd, _, rfl, rfl, rfl, hdd, fun u hu => hu, T.te_kit, ?_⟩
      refine ⟨by show 3 ≤ _; decide, fun p hp => ?_⟩
      exact ⟨_, rfl, k p hp⟩
    · exact h
end Sp
end

section
set_option Elab.async false
set_option linter.all false
set_option maxRecDepth 100000
set_option maxHeartbeats 4000000
/-! Sparetrees: the two defs that make lambdas: their tables. -/
namespace Sp
open PySem PySem.Spec PyProof.Rows L2
abbrev cR (K : PySem.W.Frag) : Addr × Addr := He.cT K ("_law_is_place_right", none)
abbrev cL (K : PySem.W.Frag) : Addr × Addr := He.cT K ("law", none)
abbrev qR : Str := ("_law_is_place_right" : Str) ++ (".<locals>." : Str) ++ ("<lambda>" : Str)
abbrev Tb (K : PySem.W.Frag) (q1 q2 : Str) : List (Addr × Str) := [((cR K).2, q1), ((cL K).2, q2)]
section
variable {P : Program} {w : World} {K : PySem.W.Frag} {mg : Str → Option Value} {base : Heap}
/-- the rule for a def that makes a lambda: its code object is told -/
theorem okC {x : Str} {i : Nat} {N ps : List Str} {k : Nat} {sp : L2.Sp} {fd : FuncData} (F : FunD K x x (defArgs (topS i)) (defBody (topS i)) (defScope (topS i)) [] [] (He.ga K x) fd) (S : FnScope N ps (defScope (topS i)))
    (len : ∀ vs H Q E, sp vs H Q E → vs.length = ps.length)
    (hbody : ∀ (A : Around) (outer : List Env) (s : Shared) (H : Hp) (vs : List V) (Q : VK) (E : XK), Room k (A.deeper (envOfC x (defScope (topS i)) s.heap.objs.size (He.ga K x) (.ref (He.codeOf K (x, none))))) → sp vs H Q E →
      ∃ t, PSs (cxOf CX0 P w K mg base N x (defScope (topS i)) (He.ga K x) (.ref (He.codeOf K (x, none))) A outer s H E).nox (defBody (topS i)) t ∧ t { nx := fun _ H' => Q .non H', rt := Q } (L2.start N vs) H) : FnOk P w K mg base CX0 (k + 1) (He.ga K x) fd ps sp := by
  obtain ⟨oc, od, dV, kV, doc, pm, an, cdv, ct, osl, rfl, lk, hcd, _, _⟩ := F.ex
  obtain ⟨c, ec⟩ := He.codeIn_ref hcd
  have e2 : He.codeOf K (x, none) = c := He.codeOf_eq (p := (x, none)) lk ec
  rw [← e2] at ec
  subst ec
  refine fn_of lk hcd S len fun A outer s H vs Q E hr hsp => ?_
  obtain ⟨t, h1, h2⟩ := hbody A outer s H vs Q E hr hsp
  exact ⟨t, h1.nox, h2⟩
/-- the rule for a def that makes a lambda: its code object is told -/
theorem DefAt.keepsC {x : Str} {i : Nat} {N ps : List Str} {k : Nat} {sp : L2.Sp} (D : DefAt K mg x i) (S : FnScope N ps (defScope (topS i)))
    (h : ∀ (kV doc pm : Value) (an : Option Addr) (cdv ct : Value) (us : List Value), us.length = ps.length → bindArgs (PySem.W.fnOf x x (defArgs (topS i)) (defBody (topS i)) (defScope (topS i)) .none kV doc pm an cdv ct) ⟨us, []⟩ = pure (ps.zip us))
    (len : ∀ vs H Q E, sp vs H Q E → vs.length = ps.length)
    (hbody : ∀ (A : Around) (outer : List Env) (s : Shared) (H : Hp) (vs : List V) (Q : VK) (E : XK), Room k (A.deeper (envOfC x (defScope (topS i)) s.heap.objs.size (He.ga K x) (.ref (He.codeOf K (x, none))))) → sp vs H Q E →
      ∃ t, PSs (cxOf CX0 P w K mg base N x (defScope (topS i)) (He.ga K x) (.ref (He.codeOf K (x, none))) A outer s H E).nox (defBody (topS i)) t ∧ t { nx := fun _ H' => Q .non H', rt := Q } (L2.start N vs) H) : Keeps P w K mg base (k + 1) x ps sp := by
  obtain ⟨gm, fd, F⟩ := D
  exact ⟨_, fd, gm, okC F S len hbody, FunD.bindsN F h, F.kp⟩
theorem plamcall {X : Cx} {T' : List (Addr × Str)} {c Pt : Addr} {k : Nat} {params : Arguments} {body : Expr} {scope : Scope} {t : XK → TE} {p lpos pos : Pos} (T : Txt X.K X.mg) (TB : LamX.TabB X.base X.mg c Pt) (hcode : X.env.code = .ref c)
    (hmT : (Pt, X.env.qual ++ "<lambda>") ∈ T') (hu : ∀ p ∈ T', p.1 = Pt → p.2 = X.env.qual ++ "<lambda>") (hr : Room (k + 2) X.A) (hg : Gl X "_law_told") (L : LamX.LamS X.env.scope scope) (hdef : defaultsOf params X.env = ([], []))
    (hbind : ∀ (q : Str) (cl : List (Str × Addr)) (pm cv ctv : Value), bindArgs (PySem.W.kla_fn "<lambda>" q params body scope cl pm cv ctv) ⟨[], []⟩ = pure [])
    (hbody : ∀ (A : Around) (outer : List Env) (s : Shared) (H : Hp) (E : XK) (f c' : Addr), Room k (A.deeper (LamX.lamEnv X scope s.heap.objs.size f c')) → PE (LamX.lamCx X A outer s H E scope f c') body (t E)) :
    PE X (.Call (.Name "_law_told" p) [.Lambda params body scope lpos] [] pos) (LamX.tLam T' (TTold X.K) t) := by
  obtain ⟨gm, fd, F⟩ := T.d_told
  have kp := F.kp
  have b := FunD.bindsN (ps := ["_law_call"]) F fun _ _ _ _ _ _ us hl => match us, hl with | [_], _ => rfl
  obtain ⟨oc, od, dV, kV, doc, pm, an, cdv, ct, osl, rfl, lk, hcd, _, _⟩ := F.ex
  exact LamX.pe_lamcall (a := "_law_call") hg gm kp lk hcd b sc_told rfl (.inl rfl) (told_gives T) TB hcode hmT hu hr L hdef hbind hbody
end
/-! ### the state of the two: what stays, the bag, the tables -/
theorem codeO_lst {c : Addr} {q : Str} (xs : List V) : LamX.CodeO c q ≠ .lst xs := fun z => by
  unfold LamX.CodeO at z
  cases z
theorem tabs_kn {T : List (Addr × Str)} {H H' : Hp} (t : LamX.Tabs T H) (k : ∀ b o, H b = some o → (∀ xs, o ≠ .lst xs) → H' b = some o) : LamX.Tabs T H' := fun p hp => by
  obtain ⟨ps, a1, a2, a3⟩ := t p hp
  refine ⟨ps, k _ _ a1 (fun xs z => by cases z), a2, fun pos cv hcv => ?_⟩
  obtain ⟨c0, e1, e2⟩ := a3 pos cv hcv
  exact ⟨c0, e1, k _ _ e2 codeO_lst⟩
abbrev NT (G : Hp) : Prop := ∀ c ps, G c ≠ some (.tbl ps)
/-- growth, where tables and the bag may change -/
structure XtN (b : Addr) (G0 H0 G H : Hp) : Prop where
  gg : Same G0 G
  gh : Same G H
  hh : ∀ c o, c ≠ b → (∀ ps, o ≠ .tbl ps) → H0 c = some o → H c = some o
  fr : ∀ c o, (∀ ps, o ≠ .tbl ps) → H0 c = some o → G0 c = none → G c = none
theorem XtN.old {b p : Addr} {o : HO} {G0 H0 G H : Hp} (x : XtN b G0 H0 G H) (h : G0 p = some o) : H p = some o := x.gh _ _ (x.gg _ _ h)
theorem XtN.gnone {b p : Addr} {G0 H0 G H : Hp} (x : XtN b G0 H0 G H) (h : H p = none) : G p = none := by
  cases e : G p with
  | none => rfl
  | some u => rw [x.gh _ _ e] at h; cases h
structure Sta (K : PySem.W.Frag) (q1 q2 : Str) (b : Addr) (G0 H0 G H : Hp) : Prop where
  x : XtN b G0 H0 G H
  B : Bag b G H
  T : LamX.Tabs (Tb K q1 q2) H
  nt : NT G
section
variable {K : PySem.W.Frag} {q1 q2 : Str} {b : Addr} {G0 H0 G H G' H' : Hp}
theorem Sta.refl (gh : Same G H) (B : Bag b G H) (T : LamX.Tabs (Tb K q1 q2) H) (nt : NT G) : Sta K q1 q2 b G H G H := ⟨⟨Same.refl _, gh, fun _ _ _ _ e => e, fun _ _ _ _ e => e⟩, B, T, nt⟩
/-- what is new for us, was at most a table -/
theorem Sta.hnone {p : Addr} (S : Sta K q1 q2 b G0 H0 G H) (h : H p = none) (o : HO) (e : H0 p = some o) : ∃ ps, o = .tbl ps := by
  have hb : p ≠ b := fun z => S.B.ne (z ▸ h)
  cases o with
  | tbl ps => exact ⟨ps, rfl⟩
  | _ => exact absurd (S.x.hh p _ hb (by intro _ z; cases z) e) (by rw [h]; simp)
theorem Sta.pu (S : Sta K q1 q2 b G0 H0 G H) (x : Xt Pu G H G' H') : Sta K q1 q2 b G0 H0 G' H' := by
  refine ⟨⟨S.x.gg.trans x.gg, x.gh, fun c o hb n e => x.hh _ _ (fun z => z) (S.x.hh c o hb n e), fun c o n e e0 => ?_⟩, S.B.pu x, S.T.ext x.same, fun c ps e => S.nt c ps (x.gt c ps e)⟩
  refine x.fr c ?_ (S.x.fr c o n e e0)
  by_cases hb : c = b
  · rw [hb]; exact S.B.ne
  · rw [S.x.hh c o hb n e]; simp
theorem Sta.bg (S : Sta K q1 q2 b G0 H0 G H) (x : Xt (Bg b) G H G' H') (B : Bag b G' H') : Sta K q1 q2 b G0 H0 G' H' := by
  refine ⟨⟨S.x.gg.trans x.gg, x.gh, fun c o hb n e => x.hh _ _ hb (S.x.hh c o hb n e), fun c o n e e0 => ?_⟩, B, tabs_kn S.T fun c o e n => x.hh c o (fun z => ?_) e, fun c ps e => S.nt c ps (x.gt c ps e)⟩
  · refine x.fr c ?_ (S.x.fr c o n e e0)
    by_cases hb : c = b
    · rw [hb]; exact S.B.ne
    · rw [S.x.hh c o hb n e]; simp
  · obtain ⟨c', a, r, t, cs, hb, _⟩ := S.B.ex
    rw [show c = b from z, hb] at e
    exact n _ (Option.some.inj e).symm
theorem Sta.mm (S : Sta K q1 q2 b G0 H0 G H) (S' : Sta K q1 q2 b G H G' H') : Sta K q1 q2 b G0 H0 G' H' := by
  refine ⟨⟨S.x.gg.trans S'.x.gg, S'.x.gh, fun c o hb n e => S'.x.hh c o hb n (S.x.hh c o hb n e), fun c o n e e0 => ?_⟩, S'.B, S'.T, S'.nt⟩
  by_cases hb : c = b
  · rw [hb]; exact S'.B.gb
  · exact S'.x.fr c o n (S.x.hh c o hb n e) (S.x.fr c o n e e0)
theorem Sta.lam (S : Sta K q1 q2 b G0 H0 G H) (e : LamX.ExtN H H') (T : LamX.Tabs (Tb K q1 q2) H') : Sta K q1 q2 b G0 H0 G H' := by
  refine ⟨⟨S.x.gg, fun c o h => e c o (S.x.gh _ _ h) fun ps z => S.nt c ps (by rw [h, z]), fun c o hb n h => e c o (S.x.hh c o hb n h) n, S.x.fr⟩, ?_, T, S.nt⟩
  obtain ⟨gb, c, a, r, t, cs, hb, h1⟩ := S.B
  exact ⟨gb, c, a, r, t, cs, e _ _ hb (by intro _ z; cases z), h1⟩
/-- a list of ours changes -/
theorem Sta.mut {p : Addr} {xs : List V} {o : HO} (S : Sta K q1 q2 b G0 H0 G H) (h0 : ∀ u, H0 p = some u → ∃ ps, u = .tbl ps) (hg : G p = none) (hp : H p = some (.lst xs)) (hb : p ≠ b) : Sta K q1 q2 b G0 H0 G (upd H p o) := by
  refine ⟨⟨S.x.gg, fun c u e => ?_, fun c u hcb n e => ?_, S.x.fr⟩, S.B.upd hb, tabs_kn S.T fun c u e n => by rw [upd_ne (fun z => by rw [z, hp] at e; exact n _ (Option.some.inj e).symm)]; exact e, S.nt⟩
  · rw [upd_ne (ne_of_none e hg)]; exact S.x.gh _ _ e
  · have hcp : c ≠ p := fun z => by
      rw [z] at e
      obtain ⟨ps, hps⟩ := h0 u e
      exact n ps hps
    rw [upd_ne hcp]; exact S.x.hh c u hcb n e
end
end Sp
end

section
set_option Elab.async false
set_option linter.all false
set_option maxRecDepth 100000
set_option maxHeartbeats 4000000
/-! Sparetrees: one place of the law. -/
namespace Sp
open PySem PySem.Spec PyProof.Rows L2
section
variable {P : Program} {w : World} {K : PySem.W.Frag} {mg : Str → Option Value} {base : Heap}
abbrev q1R : Str := (envOfC ("_law_is_place_right" : Str) (defScope (topS 69)) 0 0 .none).qual ++ ("<lambda>" : Str)
abbrev q2L : Str := (envOfC ("law" : Str) (defScope (topS 70)) 0 0 .none).qual ++ ("<lambda>" : Str)
def sp_right (K : PySem.W.Frag) : L2.Sp := fun vs H Q _ => ∃ (b : Addr) (n r k : Nat) (L : List Lk) (t : List (List Nat)) (p : Addr) (v : V) (pl : Nat) (due : V) (G : Hp), vs = [.ref b, .ref p, v, nV pl, due] ∧ Same G H ∧ Bag b G H ∧ LamX.Tabs (Tb K q1R q2L) H ∧ NT G ∧
  DictP n r L t k p G ∧ PlanP K n r L t k v G ∧ PlanOk n r L t k ∧ pl < n ∧ pl ≠ r ∧
  ((due = .non ∧ 20000 < prN n r L t pl) ∨ (∃ f S, due = .ref f ∧ prN n r L t pl ≤ 20000 ∧ StopsL (ways n r L t pl) (t.length + 1 - k) S ∧ rL (rT rN) S due G)) ∧ ∀ (G' H' : Hp), Sta K q1R q2L b G H G' H' → Q (.bl true) H'
theorem Xt.ofSame {m : Addr → Prop} {G H H' : Hp} (gh : Same G H) (s : Same H H') : Xt m G H G H' :=
  ⟨Same.refl _, gh.trans s, fun _ _ _ e => s _ _ e, fun b e => by
    cases h : H b with
    | none => exact absurd h e
    | some o => rw [s _ _ h]; simp, fun _ _ e => e, fun _ _ e => e⟩
abbrev dMany : PyData := .tuple [.str "many", .int 20000, .bool true]
theorem many_ok : SeqAt.shaped dMany = true ∧ PyData.eqv dMany dMany = true := ⟨by decide +kernel, by decide +kernel⟩
theorem dp_many {K : PySem.W.Frag} {H : Hp} {p : Addr} (h : H p = some (.tup [.str "many", .int 20000, .bl true])) : Dp K H (.ref p) dMany := .tup (SqT.of h) (.cons (.str _) (.cons (.int _) (.cons (.bl _) .nil)))
abbrev dTold (d : PyData) : PyData := .tuple [.str "told", d]
theorem dp_told {K : PySem.W.Frag} {H : Hp} {p : Addr} {v : V} {d : PyData} (h : H p = some (.tup [.str "told", v])) (hd : Dp K H v d) : Dp K H (.ref p) (dTold d) := .tup (SqT.of h) (.cons (.str _) (.cons hd .nil))
theorem told_ok {d : PyData} (h : d.canLay0 = true) (h2 : d.depth ≤ 10) : SeqAt.shaped (dTold d) = true ∧ PyData.eqv (dTold d) (dTold d) = true := by
  obtain ⟨h3, h4⟩ := told_lay (z := "told") h h2 (by decide +kernel)
  exact ⟨h3, PySem.SeqAt.eqv_refl _ h4⟩
theorem held_eq {n r : Nat} {L : List Lk} {t : List (List Nat)} {k pl : Nat} {S : List (List Nat)} {lo : List Nat} (hk : k ≤ t.length) (hS : StopsL (ways n r L t pl) (t.length + 1 - k) S) : (S.any fun x => x.all fun l => decide (l ∈ lo)) = stopB n r L t k pl lo := by
  rw [Bool.eq_iff_iff, stop_iff hk, raw_held, List.any_eq_true]
  constructor
  · rintro ⟨x, hx, h⟩
    exact ⟨x, hS.perm.mem_iff.mp hx, fun l hl => of_decide_eq_true (List.all_eq_true.mp h l hl)⟩
  · rintro ⟨x, hx, h⟩
    exact ⟨x, hS.perm.mem_iff.mpr hx, List.all_eq_true.mpr fun l hl => decide_eq_true (h l hl)⟩
abbrev N_right : List Str := ["_law_bag_here", "_law_plan_here", "_law_made_here", "_law_place", "_law_due", "_law_told_here", "_law_k", "_law_lost", "_law_is_held", "_law_lot_here", "_law_link"]
theorem sc_right : FnScope N_right ["_law_bag_here", "_law_plan_here", "_law_made_here", "_law_place", "_law_due"] (defScope (topS 69)) := ⟨rfl, rfl, rfl, by decide +kernel, rfl, by decide +kernel, by decide +kernel⟩
theorem ok_right (T : Txt K mg) (TBR : LamX.TabB base mg (cR K).1 (cR K).2) (ne : (cR K).2 ≠ (cL K).2) : Keeps P w K mg base 13 "_law_is_place_right" ["_law_bag_here", "_law_plan_here", "_law_made_here", "_law_place", "_law_due"] (sp_right K) := by
  have G_draw := ok_draw (P := P) (w := w) (base := base) T
  have G_lot := ok_lot (P := P) (w := w) (base := base) T
  have G_are_least := ok_are_least (P := P) (w := w) (base := base) T
  have G_stopped := ok_stopped (P := P) (w := w) (base := base) T
  have G_stops := ok_stops (P := P) (w := w) (base := base) T
  refine T.d_right.keepsC sc_right (fun _ _ _ _ _ _ us hl => match us, hl with | [_, _, _, _, _], _ => rfl) (fun vs H Q E h => ?_) (fun A outer s H vs Q E hr h => ?_)
  · obtain ⟨b, n, r, k', L, t, p, v, pl, due, G, rfl, gh, B, Tt, nt, DP, N, ok, hpl, hplr, hdue, k⟩ := h; rfl
  · have hu := hu_of hr
    obtain ⟨b, n, r, k', L, t, p, v, pl, due, G, rfl, gh, B, Tt, nt, DP, N, ok, hpl, hplr, hdue, k⟩ := h
    refine ⟨_, (pss_cons (ps_set (i := 5) sc_right.nd rfl (Or.inl rfl) (plamcall T TBR rfl (T' := Tb K q1R q2L) List.mem_cons_self (fun p hp e => (List.mem_cons.mp hp).elim (fun z => by rw [z]; rfl) fun z => absurd e (by rw [List.mem_singleton.mp z]; exact fun e => ne e.symm)) (hr.mono (by decide)) rfl (LamX.lamS_by (sc := defScope (topS 69)) (by decide +kernel)) rfl (fun _ _ _ _ _ => rfl) (fun _ _ _ _ _ _ _ hr2 => pcallX G_stops hr2 rfl (passes_call (takes_of rfl rfl rfl rfl) (fun _ _ _ _ z => z)) (pa_cons (pv 2) (pa_cons (pv 3) pa_nil)))))
      (pss_cons (ps_if (pt_cmpR op_isN (pv 4) pe_non (nomark _))
      (pss_one (ps_ret (pe_cmpR (op_eqD hr.units) (pv 5) (pe_tup (pa_cons pe_str (pa_cons pe_int (pa_cons pe_bl pa_nil)))) (nomark _))))
      pss_nil)
      (pss_cons (ps_if (PW.pt (pw_or (pt_cmpR (op_neD hr.units) (pv 5) (pe_tup (pa_cons pe_str (pa_cons (pv 4) pa_nil))) (nomark _)) (pw_or (pt_not (pt_val (pe_callB call_isi (by rfl) T.b_isinstance (by decide +kernel) (pa_cons (pe_ix ix_tup (pv 5) pe_int (fun _ _ => rfl)) (pa_cons (pe_bltn (v := .ty "list") rfl T.b_list (by decide +kernel) rfl) pa_nil))))) (pw_or1 (pt_not (pt_val (pe_callB (cr_all rfl) (by rfl) T.b_all (by decide +kernel) (pa_cons (pe_lc (own := [("_law_lot_here", 9)]) (g := gName 9) (tt := tYes) (by rfl) sc_right.nd (pi_list (pe_ix ix_tup (pv 5) pe_int (fun _ _ => rfl))) (blkOk_by (N := N_right) (sc := defScope (topS 69)) (by decide +kernel)) (fun _ _ _ _ _ => pg_name (i := 9) sc_right.nd rfl (Or.inl rfl)) (fun _ _ _ _ _ => pts_nil) (fun _ _ _ _ _ => (pe_callB (call_isiK (K := K)) (by rfl) T.b_isinstance (by decide +kernel) (pa_cons (pv 9) (pa_cons (pe_bltn (v := .ty "tuple") rfl T.b_tuple (by decide +kernel) rfl) pa_nil))))) pa_nil))))))))
      (pss_one (ps_ret pe_bl))
      pss_nil)
      (pss_cons (ps_if (pt_not (pt_val (pcall G_are_least (hr.mono (by decide)) rfl (pa_cons (pv 0) (pa_cons (pv 2) (pa_cons (pv 3) (pa_cons (pv 4) pa_nil)))))))
      (pss_one (ps_ret pe_bl))
      pss_nil)
      (pss_cons (ps_for PassesOwn.never rfl (pi_range1 (by rfl) T.b_range (pa_cons pe_int pa_nil)) (pg_name (i := 6) sc_right.nd rfl (Or.inl rfl))
      (pss_cons (ps_set (i := 7) sc_right.nd rfl (Or.inr rfl) (pcall G_lot (hr.mono (by decide)) rfl (pa_cons (pv 0) (pa_cons (pe_callB call_len_seq (by rfl) T.b_len (by decide +kernel) (pa_cons (pe_dget hu (pv 1) pe_str (fun _ _ => rfl)) pa_nil)) (pa_cons (pe_ix ix_list (pe_lst (pa_cons pe_int (pa_cons pe_int (pa_cons pe_int pa_nil)))) (pcall G_draw (hr.mono (by decide)) rfl (pa_cons (pv 0) (pa_cons pe_int pa_nil))) (fun _ _ => rfl)) pa_nil)))))
        (pss_cons (ps_set (i := 8) sc_right.nd rfl (Or.inl rfl) (pe_callB (cr_any rfl) (by rfl) T.b_any (by decide +kernel) (pa_cons (pe_lc (own := [("_law_lot_here", 9)]) (g := gName 9) (tt := tYes) (by rfl) sc_right.nd (pi_list (pv 4)) (blkOk_by (N := N_right) (sc := defScope (topS 69)) (by decide +kernel)) (fun _ _ _ _ _ => pg_name (i := 9) sc_right.nd rfl (Or.inl rfl)) (fun _ _ _ _ _ => pts_nil) (fun _ _ _ _ _ => (pe_callB (cr_allK (K := K) rfl) (by rfl) T.b_all (by decide +kernel) (pa_cons (pe_lc (own := [("_law_link", 10)]) (g := gName 10) (tt := tYes) (by rfl) sc_right.nd (pi_tupK (K := K) (pv 9)) (blkOk_by (N := N_right) (sc := relS _ (defScope (topS 69))) (by decide +kernel)) (fun _ _ _ _ _ => pg_name (i := 10) sc_right.nd rfl (Or.inl rfl)) (fun _ _ _ _ _ => pts_nil) (fun _ _ _ _ _ => (pe_cmpR (op_in_seqK (K := K)) (pv 10) (pv 7) (by rfl)))) pa_nil)))) pa_nil)))
        (pss_one (ps_if (pt_cmpR op_ne (pe_cmpR op_in_seq (pv 3) (pcall G_stopped (hr.mono (by decide)) rfl (pa_cons (pv 2) (pa_cons (pv 7) pa_nil))) (by rfl)) (pv 8) (nomark _))
        (pss_one (ps_ret pe_bl))
        pss_nil)))))
      (pss_cons (ps_expr (pe_bm PySem.F.plainAttrs_list PySem.F.slot_list_append PySem.F.type_list_append mt_append (pe_ix ix_tup (pv 5) pe_int (fun _ _ => rfl)) (pa_cons (pe_tup pa_nil) pa_nil)))
      (pss_one (ps_ret (pe_or (pe_cmpR op_gt (pe_callB call_len_seq (by rfl) T.b_len (by decide +kernel) (pa_cons (pv 4) pa_nil)) pe_int (nomark _)) (pe_one (pe_cmpR (op_eqD hr.units) (pcallX (E := E0) G_stops (hr.mono (by decide)) rfl (passes_call LamX.takes0 (fun _ _ _ _ z => z)) (pa_cons (pv 2) (pa_cons (pv 3) pa_nil))) (pv 4) (nomark _)))))))))))), ?_⟩
    have big : (100000 : Nat) ≤ sizeLine := by decide
    have km := ok.km; have kk1 := ok.k1
    have S0 : Sta K q1R q2L b G H G H := Sta.refl gh B Tt nt
    refine ⟨Tt, fun H1 eP T1 => ?_⟩
    have S1 := S0.lam eP T1
    refine ⟨_, rfl, _, rfl, n, r, L, t, k', pl, v, G, rfl, S1.x.gh, N, ok, hpl, hplr, fun hmany H2 d s hd => ?_, fun hfew G2 H2 f S x2 hS hFL => ?_⟩
    · -- too many
      have hdn : due = .non := by
        rcases hdue with ⟨h, _⟩ | ⟨_, _, _, h, _⟩
        · exact h
        · omega
      subst hdn
      refine ⟨rfl, d, rfl, hd, fun q hq => ?_⟩
      have S2 := S1.pu (Xt.ofSame S1.x.gh s)
      have x3 := (Xt.refl (m := Pu) S2.x.gh).new hq (.tup [.str "many", .int 20000, .bl true])
      have S3 := S2.pu x3
      refine ⟨_, rfl, rfl, _, rfl, ?_⟩
      rw [decide_eq_true rfl]
      refine iteT ?_
      refine ⟨_, rfl, by show 3 ≤ _; omega, fun u hu => ?_⟩
      have x4 := (Xt.refl (m := Pu) S3.x.gh).new hu (.tup [.str "many", .int 20000, .bl true])
      have S4 := S3.pu x4
      refine ⟨dMany, dMany, dp_many (x4.old upd_same), dp_many upd_same, many_ok.1, many_ok.1, ?_⟩
      rw [many_ok.2]
      exact k _ _ S4
    · -- told
      obtain ⟨df, S', edue, _, hS', hdl⟩ : ∃ f S, due = .ref f ∧ prN n r L t pl ≤ 20000 ∧ StopsL (ways n r L t pl) (t.length + 1 - k') S ∧ rL (rT rN) S due G := by
        rcases hdue with ⟨_, h⟩ | h
        · omega
        · exact h
      have eS := hS'.uniq hS
      subst eS
      subst edue
      obtain ⟨f0, gf, acc, hf, hacc⟩ := hFL
      have fb : f ≠ b := fun z => S1.B.ne (z ▸ f0)
      have fH := S1.hnone f0
      have S2 := S1.pu x2
      refine ⟨by omega, fun q hq => ⟨_, rfl, ?_⟩⟩
      have x3 := (Xt.refl (m := Pu) S2.x.gh).new hq (.tup [.str "told", .ref f])
      have S3 := S2.pu x3
      have fq : f ≠ q := ne_of_none hf hq
      have hf3 : (upd H2 q (.tup [.str "told", .ref f])) f = some (.lst acc) := by rw [upd_ne fq]; exact hf
      have gf3 : (upd G2 q (.tup [.str "told", .ref f])) f = none := by rw [upd_ne fq]; exact gf
      have hacc3 := All2.mono (same_upd (o := .tup [.str "told", .ref f]) (S2.x.gnone hq)) hacc
      have gq3 : (upd G2 q (.tup [.str "told", .ref f])) q = some (.tup [.str "told", .ref f]) := upd_same
      generalize upd G2 q (.tup [.str "told", .ref f]) = G3 at S3 gf3 hacc3 gq3
      generalize upd H2 q (.tup [.str "told", .ref f]) = H3 at S3 hf3
      refine ⟨_, rfl, rfl, _, rfl, ?_⟩
      rw [show decide ((V.ref df) = V.non) = false from decide_eq_false (fun z => by cases z)]
      refine iteF ?_
      -- it is what is due
      refine ⟨_, rfl, _, rfl, by show 2 ≤ _; omega, fun u hu => ?_⟩
      have x4 := (Xt.refl (m := Pu) S3.x.gh).new hu (.tup [.str "told", .ref df])
      have S4 := S3.pu x4
      have fu : f ≠ u := ne_of_none hf3 hu
      have qu : q ≠ u := ne_of_none (S3.x.gh _ _ gq3) hu
      have hf4 : (upd H3 u (.tup [.str "told", .ref df])) f = some (.lst acc) := by rw [upd_ne fu]; exact hf3
      have gf4 : (upd G3 u (.tup [.str "told", .ref df])) f = none := by rw [upd_ne fu]; exact gf3
      have gq4 : (upd G3 u (.tup [.str "told", .ref df])) q = some (.tup [.str "told", .ref f]) := by rw [upd_ne qu]; exact gq3
      have gu4 : (upd G3 u (.tup [.str "told", .ref df])) u = some (.tup [.str "told", .ref df]) := upd_same
      have hacc4 := All2.mono (same_upd (o := .tup [.str "told", .ref df]) (S3.x.gnone hu)) hacc3
      generalize upd G3 u (.tup [.str "told", .ref df]) = G4 at S4 gf4 gq4 gu4 hacc4
      generalize upd H3 u (.tup [.str "told", .ref df]) = H4 at S4 hf4
      obtain ⟨ls1, ls2⟩ := lay_S S'
      have tok := told_ok ls1 (by omega)
      have dd1 : Dp K H4 (.ref f) (dS S') := .lst (SqL.of hf4) (dp_Ts S4.x.gh hacc4)
      refine ⟨dTold (dS S'), dTold (dS S'), dp_told (S4.x.gh _ _ gq4) dd1, dp_told (S4.x.gh _ _ gu4) (dp_S S4.x.gh (Mn.mono S4.x.gg hdl)), tok.1, tok.1, ?_⟩
      rw [tok.2]
      refine ⟨_, rfl, iteF ?_⟩
      refine ⟨_, rfl, q, _, _, _, rfl, rfl, SqT.of (S4.x.gh _ _ gq4), rfl, _, _, _, _, true, rfl, .ty _, .base (.lst hf4), kit_ty (by decide +kernel), _, rfl, iteF ?_⟩
      have fFz : Xt Pu (upd G4 f (.lst acc)) H4 (upd G4 f (.lst acc)) H4 := Xt.refl fun c o e => by
        by_cases h : c = f
        · subst h; rw [upd_same] at e; cases e; exact hf4
        · rw [upd_ne h] at e; exact S4.x.gh _ _ e
      refine ⟨_, rfl, q, _, _, _, rfl, rfl, SqT.of (S4.x.gh _ _ gq4), rfl, f, rfl, ⟨_, SqL.of hf4⟩, fun D hD => lcLm S' (fun _ => true) (rT rN) rB fFz.gh upd_same (All2.mono (same_upd gf4) hacc4) hD ?_ ?_ ?_⟩
      · rw [hS'.perm.length_eq]
        have h1 := raw_len (ways n r L t pl) (t.length + 1 - k')
        rw [List.map_map, ← prd_eq] at h1
        have h2 : prd (t.map (List.length ∘ fun x => way n r L x pl)) ≤ 20000 := hfew
        omega
      · rintro j y uu G5 H5 hy hyu x5 Q2 k2
        obtain ⟨yp, rfl, hyp⟩ := rT_nat hyu
        exact ⟨_, rfl, _, _, _, _, true, rfl, .ty _, .base (.tup (x5.gh _ _ hyp)), kit_ty (by decide +kernel), k2 _ _ _ (Xt.refl x5.gh) rfl⟩
      · rintro G5 H5 acc5 x5 hD5 gD5 ha5
        rw [all2_bool ha5] at hD5
        refine ⟨D, _, rfl, SqL.of hD5, ?_⟩
        rw [all_true]
        refine ⟨true, rfl, iteF ?_⟩
        have S5 := S4.pu (Xt.ofSame S4.x.gh x5.same)
        have hf5 := x5.same _ _ hf4
        -- the least lots
        refine ⟨_, rfl, _, rfl, _, rfl, _, rfl, b, n, r, k', L, t, v, pl, df, S', G4, rfl, S5.x.gh, S5.B, N.mono S5.x.gg, ok, hpl, hplr, hfew, hS', Mn.mono S5.x.gg hdl, fun G6 H6 x6 B6 => ?_⟩
        refine ⟨true, rfl, iteF ?_⟩
        have S6 := S5.bg x6 B6
        have hf6 := x6.hh _ _ fb hf5
        have gf6 := x6.fr f (by rw [hf5]; simp) gf4
        have gq6 := x6.gg _ _ gq4
        refine ⟨3, rfl, by decide, by decide, for_range (lo := 0) (n := 3) (fun i σ H1 => ∃ (G7 : Hp) (o6 o7 o8 : Option V), σ = [some (.ref b), some (.ref p), some v, some (nV pl), some (.ref df), some (.ref q), o6, o7, o8, none, none] ∧ Sta K q1R q2L b G H G7 H1 ∧ G7 f = none ∧ H1 f = some (.lst acc) ∧ G7 q = some (.tup [.str "told", .ref f])) ?_ ?_ ?_⟩
        · exact ⟨G6, _, _, _, rfl, S6, gf6, hf6, gq6⟩
        · rintro i σ H7 hi ⟨G7, o6, o7, o8, rfl, S7, gf7, hf7, gq7⟩
          -- a drawn lot
          obtain ⟨lp, tp, hp, ⟨_, ls, e1, hlp, hls⟩, _⟩ := DP
          cases e1
          have L60 := ok.L60
          have c1 := ok.n10
          refine ⟨_, rfl, _, rfl, p, _, rfl, DGet.k (k := .inr "links") (S7.x.old hp), lp, _, rfl, .inl (SqL.of (S7.x.old hlp)), ?_⟩
          refine ⟨by show 3 ≤ _; omega, fun cp hcp => ?_⟩
          have x8 := (Xt.refl (m := Pu) S7.x.gh).newM hcp (.lst [.int 1, .int 4, .int 8])
          have S8 := S7.pu x8
          have cpb : cp ≠ b := fun z => S7.B.ne (z ▸ hcp)
          refine ⟨_, rfl, b, 3, G7, rfl, S8.x.gh, S8.B, by decide, by decide, fun H9 d9 x9 B9 hd9 => ?_⟩
          have S9 := S8.bg x9 B9
          have hcp9 := x9.hh _ _ cpb upd_same
          obtain ⟨cv, hcv⟩ : ∃ cv : Nat, ([.int 1, .int 4, .int 8] : List V)[d9]? = some (nV cv) := by
            match d9, hd9 with
            | 0, _ => exact ⟨1, rfl⟩
            | 1, _ => exact ⟨4, rfl⟩
            | 2, _ => exact ⟨8, rfl⟩
          refine ⟨cp, _, (d9 : Int), nV cv, rfl, rfl, SqL.of hcp9, atI_nat hcv, ?_⟩
          refine ⟨b, L.length, cv, G7, by rw [hls.len]; rfl, S9.x.gh, S9.B, by omega, fun G10 H10 lf lo x10 B10 hlf hlo1 hlo2 => ?_⟩
          have S10 := S9.bg x10 B10
          have hf8 : (upd H7 cp (.lst [.int 1, .int 4, .int 8])) f = some (.lst acc) := x8.hh _ _ (fun z => z) hf7
          have hf9 := x9.hh _ _ fb hf8
          have hf10 := x10.hh _ _ fb hf9
          have gf10 := x10.fr f (by rw [hf9]; simp) gf7
          have gq10 := x10.gg _ _ gq7
          -- is it held
          obtain ⟨_, ds, e2, hdf, hds⟩ := hdl
          cases e2
          refine ⟨_, rfl, df, rfl, ⟨_, SqL.of (S10.x.old hdf)⟩, fun D2 hD2 => lcLm S' (fun x => x.all fun l => decide (l ∈ lo)) (rT rN) rB S10.x.gh (S10.x.gg _ _ hdf) (All2.mono S10.x.gg hds) hD2 ?_ ?_ ?_⟩
          · rw [hS'.perm.length_eq]
            have h1 := raw_len (ways n r L t pl) (t.length + 1 - k')
            rw [List.map_map, ← prd_eq] at h1
            have h2 : prd (t.map (List.length ∘ fun x => way n r L x pl)) ≤ 20000 := hfew
            omega
          · rintro j y uu G11 H11 hy hyu x11 Q2 k2
            obtain ⟨yp, rfl, hyp⟩ := rT_nat hyu
            have hyl : y.length ≤ 12 := by
              rw [raw_length (hS'.perm.mem_iff.mp (List.mem_of_getElem? hy))]
              have := ok.m12; omega
            refine ⟨_, rfl, yp, rfl, ⟨_, SqT.of (x11.gh _ _ hyp)⟩, fun D3 hD3 => lcTm y (fun l => decide (l ∈ lo)) rN rB x11.gh hyp (nat_all2 y) hD3 (by omega) ?_ ?_⟩
            · rintro j2 z _ G12 H12 hz rfl x12 Q3 k3
              refine ⟨_, rfl, _, rfl, lf, _, rfl, .inr (SqT.of (x12.gh _ _ (x12.gg _ _ (x11.gg _ _ hlf)))), rfl, flat_nat lo, ?_⟩
              rw [show (if false = true then !inV (nV z) (lo.map nV) else inV (nV z) (lo.map nV)) = inV (nV z) (lo.map nV) from rfl, inV_nat]
              exact k3 _ _ _ (Xt.refl x12.gh) rfl
            · rintro G12 H12 acc12 x12 hD12 gD12 ha12
              rw [all2_bool ha12] at hD12
              refine ⟨D3, _, rfl, SqL.of hD12, ?_⟩
              rw [all_map]
              exact k2 _ _ _ x12 rfl
          · rintro G11 H11 acc11 x11 hD11 gD11 ha11
            rw [all2_bool ha11] at hD11
            refine ⟨D2, _, rfl, SqL.of hD11, ?_⟩
            rw [any_map, held_eq km hS']
            have S11 := S10.pu x11
            have hf11 := x11.same _ _ hf10
            have gf11 := x11.fr f (by rw [hf10]; simp) gf10
            have gq11 := x11.gg _ _ gq10
            refine ⟨_, rfl, _, rfl, _, rfl, n, r, L, t, k', v, lf, lo, G11, rfl, S11.x.gh, N.mono S11.x.gg, ok, x11.gg _ _ hlf, hlo1, hlo2, fun G12 H12 sf x12 hsf => ?_⟩
            refine ⟨sf, _, rfl, .inr (SqT.of (x12.gh _ _ hsf)), rfl, flat_nat _, ?_⟩
            rw [show (if false = true then !inV (nV pl) (((List.range n).filter fun p => stopB n r L t k' p lo).map nV) else inV (nV pl) (((List.range n).filter fun p => stopB n r L t k' p lo).map nV)) = inV (nV pl) (((List.range n).filter fun p => stopB n r L t k' p lo).map nV) from rfl, inV_nat]
            have emem : decide (pl ∈ (List.range n).filter fun p => stopB n r L t k' p lo) = stopB n r L t k' pl lo := by
              rw [Bool.eq_iff_iff, decide_eq_true_iff]
              exact mem_stopped (f := fun p => stopB n r L t k' p lo) hpl
            rw [emem]
            refine ⟨_, rfl, rfl, _, rfl, ?_⟩
            rw [decide_eq_true rfl]
            refine iteF ?_
            have S12 := S11.pu x12
            exact ⟨G12, _, _, _, rfl, S12, x12.fr f (by rw [hf11]; simp) gf11, x12.same _ _ hf11, x12.gg _ _ gq11⟩
        · rintro σ H7 ⟨G7, o6, o7, o8, rfl, S7, gf7, hf7, gq7⟩
          -- what was told is ours to change
          refine ⟨_, rfl, q, _, _, _, rfl, rfl, SqT.of (S7.x.gh _ _ gq7), rfl, .inl ⟨rfl, _, SqL.of hf7⟩, by show 0 ≤ _; omega, fun e0 he0 => ?_⟩
          have x8 := (Xt.refl (m := Pu) S7.x.gh).new he0 (.tup [])
          have S8 := S7.pu x8
          have fe : f ≠ e0 := ne_of_none hf7 he0
          have hf8 : (upd H7 e0 (.tup [])) f = some (.lst acc) := by rw [upd_ne fe]; exact hf7
          have gf8 : (upd G7 e0 (.tup [])) f = none := by rw [upd_ne fe]; exact gf7
          have Sl : S'.length ≤ 20000 := by
            rw [hS'.perm.length_eq]
            refine Nat.le_trans (raw_len _ _) ?_
            rw [List.map_map, ← prd_eq]; exact hfew
          have al := hacc4.len
          refine ⟨f, _, _, rfl, rfl, hf8, by omega, ?_⟩
          have S9 := S8.mut (o := .lst (acc ++ [.ref e0])) fH gf8 hf8 fb
          obtain ⟨_, ds, e2, hdf, hds⟩ := hdl
          cases e2
          refine ⟨_, rfl, df, _, rfl, .inl (SqL.of (S9.x.old hdf)), _, _, rfl, rfl, _, rfl, ife (fun c => ?_) (fun c => ?_)⟩
          · exact k _ _ S9
          · refine ⟨_, rfl, _, rfl, n, r, L, t, k', pl, v, _, rfl, S9.x.gh, N.mono S9.x.gg, ok, hpl, hplr, fun h => absurd h (by omega), fun _ G10 H10 f2 S2' x10 hS2 hFL2 => ?_⟩
            have eS2 := hS2.uniq hS'
            subst eS2
            obtain ⟨f20, gf2, acc2, hf2, hacc2⟩ := hFL2
            have S10 := S9.pu x10
            have dd : Dp K H10 (.ref f2) (dS S2') := .lst (SqL.of hf2) (dp_Ts S10.x.gh hacc2)
            refine ⟨_, rfl, dS S2', dS S2', dd, dp_S S10.x.gh ⟨df, ds, rfl, S10.x.gg _ _ hdf, All2.mono S10.x.gg hds⟩, shaped_of ls1 (by omega), shaped_of ls1 (by omega), ?_⟩
            rw [PySem.SeqAt.eqv_refl _ ls1]
            exact k _ _ S10
end
end Sp
end

section
set_option Elab.async false
set_option linter.all false
set_option maxRecDepth 100000
set_option maxHeartbeats 4000000
/-! Sparetrees: the law. -/
namespace Sp
open PySem PySem.Spec PyProof.Rows L2
section
variable {P : Program} {w : World} {K : PySem.W.Frag} {mg : Str → Option Value} {base : Heap}
def sp_law (K : PySem.W.Frag) : L2.Sp := fun vs H Q _ => ∃ (a : Addr) (ns : List Int), vs = [.ref a] ∧ SqL K H a (ns.map V.int) ∧ ns.length ≤ 63 ∧ LamX.Tabs (Tb K q1R q2L) H ∧ ∀ H', Q (.bl true) H'
abbrev okP (n r : Nat) (L : List Lk) (t : List (List Nat)) (p : Nat) : Bool := !decide (p = r) && decide (prN n r L t p ≤ 20000)
abbrev manyP (n r : Nat) (L : List Lk) (t : List (List Nat)) (p : Nat) : Bool := !decide (p = r) && decide (20000 < prN n r L t p)
structure LwI (K : PySem.W.Frag) (a b p fp : Addr) (v : V) (n r k : Nat) (L : List Lk) (t : List (List Nat)) (G0 H0 : Hp) (i : Nat) (σ : L2.St) (H1 : Hp) : Prop where
  ex : ∃ (G1 : Hp) (acc : List V) (o6 o7 : Option V), σ = [some (.ref a), some (.ref b), some (.ref p), some v, some (.ref fp), some (.bl ((List.range i).any (manyP n r L t))), o6, o7, none] ∧ Sta K q1R q2L b G0 H0 G1 H1 ∧ G1 fp = none ∧ H1 fp = some (.lst acc) ∧
    All2 (rFirst n r L t k) G1 ((List.range i).filter (okP n r L t)) acc
abbrev N_law : List Str := ["_law_script", "_law_bag_here", "_law_plan_here", "_law_made_here", "_law_firsts", "_law_is_many", "_law_place", "_law_due", "_law_told_here"]
theorem sc_law : FnScope N_law ["_law_script"] (defScope (topS 70)) := ⟨rfl, rfl, rfl, by decide +kernel, rfl, by decide +kernel, by decide +kernel⟩
theorem ok_law (T : Txt K mg) (TBR : LamX.TabB base mg (cR K).1 (cR K).2) (TBL : LamX.TabB base mg (cL K).1 (cL K).2) (ne : (cR K).2 ≠ (cL K).2) {fd : FuncData} (F : FunD K "law" "law" (defArgs (topS 70)) (defBody (topS 70)) (defScope (topS 70)) [] [] (He.ga K "law") fd) : FnOk P w K mg base CX0 14 (He.ga K "law") fd ["_law_script"] (sp_law K) := by
  have G_bag := ok_bag (P := P) (w := w) (base := base) T
  have G_lplan := ok_lplan (P := P) (w := w) (base := base) T
  have G_made := ok_made (P := P) (w := w) (base := base) T
  have G_product := ok_product (P := P) (w := w) (base := base) T
  have G_lstops := ok_lstops (P := P) (w := w) (base := base) T
  have G_least_stop := ok_least_stop (P := P) (w := w) (base := base) T
  have G_stopped := ok_stopped (P := P) (w := w) (base := base) T
  have G_right := ok_right (P := P) (w := w) (base := base) T TBR ne
  refine okC F sc_law (fun vs H Q E h => ?_) (fun A outer s H vs Q E hr h => ?_)
  · obtain ⟨a, ns, rfl, ha, hl, Tt, k⟩ := h; rfl
  · have hu := hu_of hr
    obtain ⟨a, ns, rfl, ha, hl, Tt, k⟩ := h
    refine ⟨_, (pss_cons (ps_set (i := 1) sc_law.nd rfl (Or.inl rfl) (pcall G_bag (hr.mono (by decide)) rfl (pa_cons (pv 0) pa_nil)))
      (pss_cons (ps_set (i := 2) sc_law.nd rfl (Or.inl rfl) (pcall G_lplan (hr.mono (by decide)) rfl (pa_cons (pv 1) (pa_cons pe_int pa_nil))))
      (pss_cons (ps_set (i := 3) sc_law.nd rfl (Or.inr rfl) (pcall G_made (hr.mono (by decide)) rfl (pa_cons (pv 2) pa_nil)))
      (pss_cons (ps_set (i := 4) sc_law.nd rfl (Or.inl rfl) (pe_lst pa_nil))
      (pss_cons (ps_set (i := 5) sc_law.nd rfl (Or.inl rfl) pe_bl)
      (pss_cons (ps_for PassesOwn.never rfl (pi_range1 (by rfl) T.b_range (pa_cons (pe_dget hu (pv 2) pe_str (fun _ _ => rfl)) pa_nil)) (pg_name (i := 6) sc_law.nd rfl (Or.inl rfl))
      (pss_one (ps_if (pt_cmpR op_ne (pv 6) (pe_dget hu (pv 2) pe_str (fun _ _ => rfl)) (nomark _))
        (pss_cons (ps_set (i := 7) sc_law.nd rfl (Or.inl rfl) pe_non)
          (pss_cons (ps_if (pt_cmpR op_le (pcall G_product (hr.mono (by decide)) rfl (pa_cons (pv 2) (pa_cons (pv 6) pa_nil))) pe_int (nomark _))
          (pss_cons (ps_set (i := 7) sc_law.nd rfl (Or.inl rfl) (pcall G_lstops (hr.mono (by decide)) rfl (pa_cons (pv 2) (pa_cons (pv 6) pa_nil))))
            (pss_one (ps_expr (pe_bm PySem.F.plainAttrs_list PySem.F.slot_list_append PySem.F.type_list_append mt_append (pv 4) (pa_cons (pe_ix ix_list (pv 7) pe_int (fun _ _ => rfl)) pa_nil)))))
          (pss_one (ps_set (i := 5) sc_law.nd rfl (Or.inl rfl) pe_bl)))
          (pss_one (ps_if (pt_not (pt_val (pcall G_right (hr.mono (by decide)) rfl (pa_cons (pv 1) (pa_cons (pv 2) (pa_cons (pv 3) (pa_cons (pv 6) (pa_cons (pv 7) pa_nil))))))))
          (pss_one (ps_ret pe_bl))
          pss_nil))))
        pss_nil)))
      (pss_cons (ps_set (i := 8) sc_law.nd rfl (Or.inl rfl) (plamcall T TBL rfl (T' := Tb K q1R q2L) (List.mem_cons_of_mem _ List.mem_cons_self) (fun p hp e => (List.mem_cons.mp hp).elim (fun z => absurd e (by rw [z]; exact ne)) fun z => by rw [List.mem_singleton.mp z]; rfl) (hr.mono (by decide)) rfl (LamX.lamS_by (sc := defScope (topS 70)) (by decide +kernel)) rfl (fun _ _ _ _ _ => rfl) (fun _ _ _ _ _ _ _ hr2 => pcallX G_least_stop hr2 rfl (passes_call (takes_of rfl rfl rfl rfl) (fun _ _ _ _ z => z)) (pa_cons (pv 3) pa_nil))))
      (pss_cons (ps_if (pt_val (pv 5))
      (pss_one (ps_ret (pe_cmpR (op_eqD hr.units) (pv 8) (pe_tup (pa_cons pe_str (pa_cons pe_int (pa_cons pe_bl pa_nil)))) (nomark _))))
      pss_nil)
      (pss_one (ps_ret (pe_and (pe_cmpR (op_eqD hr.units) (pv 8) (pe_tup (pa_cons pe_str (pa_cons (pe_callB (SpM.cr_minTT rfl hr.units) (by rfl) T.b_min (by decide +kernel) (pa_cons (pv 4) pa_nil)) pa_nil))) (nomark _)) (pe_one (pe_cmpR (op_neD hr.units) (pcall G_stopped (hr.mono (by decide)) rfl (pa_cons (pv 3) (pa_cons (pe_callB (SpM.cr_minTT rfl hr.units) (by rfl) T.b_min (by decide +kernel) (pa_cons (pv 4) pa_nil)) pa_nil))) (pe_tup pa_nil) (nomark _)))))))))))))), ?_⟩
    have big : (100000 : Nat) ≤ sizeLine := by decide
    have hRt : ∃ ps, H (cR K).2 = some (.tbl ps) := by
      obtain ⟨ps, h, _⟩ := Tt ((cR K).2, q1R) List.mem_cons_self
      exact ⟨ps, h⟩
    have hLt : ∃ ps, H (cL K).2 = some (.tbl ps) := by
      obtain ⟨ps, h, _⟩ := Tt ((cL K).2, q2L) (List.mem_cons_of_mem _ List.mem_cons_self)
      exact ⟨ps, h⟩
    refine ⟨_, rfl, a, ns, fun _ => none, rfl, ha, hl, (fun b o h => by cases h), fun G1 H1 b x1 B1 => ?_⟩
    have S1 : Sta K q1R q2L b G1 H1 G1 H1 := Sta.refl x1.gh B1 (Tt.ext x1.same) (fun c ps e => nomatch x1.gt c ps e)
    refine ⟨_, rfl, b, G1, rfl, S1.x.gh, S1.B, fun G2 H2 p n r k' L t x2 B2 ok n8 DP => ?_⟩
    have S2 := S1.bg x2 B2
    refine ⟨_, rfl, n, r, k', L, t, p, G2, rfl, S2.x.gh, DP, ok, fun G3 H3 v x3 N => ?_⟩
    have S3' := S2.pu x3
    have S3 : Sta K q1R q2L b G3 H3 G3 H3 := Sta.refl S3'.x.gh S3'.B S3'.T S3'.nt
    have DP3 := DP.mono x3.gg
    clear S3' S2 S1
    refine ⟨by show 0 ≤ _; omega, fun fp hfp => ?_⟩
    have S4 := S3.pu ((Xt.refl (m := Pu) S3.x.gh).newM hfp (.lst []))
    have fpb : fp ≠ b := fun z => S3.B.ne (z ▸ hfp)
    have DP4 := DP3
    obtain ⟨lp, tp, hp, _, _⟩ := DP3
    have n10 := ok.n10
    refine ⟨_, rfl, p, _, rfl, DGet.k (k := .inr "many") (S4.x.old hp), (n : Int), rfl, by omega, by omega, for_range (lo := 0) (n := n) (fun i σ H1 => LwI K a b p fp v n r k' L t G3 H3 i σ H1) ?_ ?_ ?_⟩
    · exact ⟨G3, [], none, none, rfl, S4, S3.x.gnone hfp, upd_same, .nil⟩
    · rintro i σ H5 hi ⟨G5, acc, o6, o7, rfl, S5, gf, hf, hacc⟩
      have ei : V.int (0 + (i : Int)) = nV i := by rw [Int.zero_add]
      rw [ei]
      have fpm : ∀ H', Sta K q1R q2L b G5 H5 G5 H' → True := fun _ _ => trivial
      refine ⟨_, rfl, _, rfl, p, _, rfl, DGet.k (k := .inr "root") (S5.x.old hp), rfl, _, rfl, ?_⟩
      rw [nV_dec]
      by_cases e : i = r
      · rw [decide_eq_true e]
        refine iteF ⟨G5, acc, some (nV i), o7, ?_, S5, gf, hf, ?_⟩
        · have e1 : (List.range (i + 1)).any (manyP n r L t) = (List.range i).any (manyP n r L t) := by
            rw [List.range_succ, List.any_append, List.any_cons, List.any_nil]
            have : manyP n r L t i = false := by unfold manyP; rw [decide_eq_true e]; rfl
            rw [this]; simp
          rw [e1]; rfl
        · have e1 : (List.range (i + 1)).filter (okP n r L t) = (List.range i).filter (okP n r L t) := by
            rw [List.range_succ, List.filter_append]
            have : okP n r L t i = false := by unfold okP; rw [decide_eq_true e]; rfl
            rw [List.filter_cons, this]; simp
          rw [e1]; exact hacc
      · rw [decide_eq_false e]
        refine iteT ?_
        have fin : ∀ (due : V) (mb : Bool) (G6 H6 : Hp) (acc6 : List V), Sta K q1R q2L b G3 H3 G6 H6 → G6 fp = none → H6 fp = some (.lst acc6) → All2 (rFirst n r L t k') G6 ((List.range (i + 1)).filter (okP n r L t)) acc6 → mb = (List.range (i + 1)).any (manyP n r L t) →
            ((due = .non ∧ 20000 < prN n r L t i) ∨ (∃ f S, due = .ref f ∧ prN n r L t i ≤ 20000 ∧ StopsL (ways n r L t i) (t.length + 1 - k') S ∧ rL (rT rN) S due G6)) →
            sp_right K [.ref b, .ref p, v, nV i, due] H6 (fun y H' => ∃ kk, y = .bl kk ∧ if (!kk) = true then Q (.bl false) H' else LwI K a b p fp v n r k' L t G3 H3 (i + 1) [some (.ref a), some (.ref b), some (.ref p), some v, some (.ref fp), some (.bl mb), some (nV i), some due, none] H') E0 := by
          intro due mb G6 H6 acc6 S6 gf6 hf6 ha6 hmb hdue
          refine ⟨b, n, r, k', L, t, p, v, i, due, G6, rfl, S6.x.gh, S6.B, S6.T, S6.nt, DP4.mono S6.x.gg, N.mono S6.x.gg, ok, hi, e, hdue, fun G7 H7 S7 => ?_⟩
          have nl : ∀ ps, HO.lst acc6 ≠ .tbl ps := fun ps z => by cases z
          exact ⟨true, rfl, iteF ⟨G7, acc6, _, _, by rw [hmb], S6.mm S7, S7.x.fr fp _ nl hf6 gf6, S7.x.hh fp _ fpb nl hf6, All2.mono S7.x.gg ha6⟩⟩
        refine ⟨_, rfl, _, rfl, n, r, k', L, t, p, i, G5, rfl, S5.x.gh, DP4.mono S5.x.gg, ok, hi, fun G6 H6 x6 => ?_⟩
        have S6 := S5.pu x6
        have hf6 := x6.same _ _ hf
        have gf6 := x6.fr fp (by rw [hf]; simp) gf
        have ha6 := All2.mono x6.gg hacc
        refine ⟨_, _, rfl, rfl, _, rfl, ?_⟩
        have ed : decide (((prN n r L t i : Nat) : Int) ≤ 20000) = decide (prN n r L t i ≤ 20000) := by
          by_cases h : prN n r L t i ≤ 20000
          · rw [decide_eq_true h]; apply decide_eq_true; omega
          · rw [decide_eq_false h]; apply decide_eq_false; omega
        rw [ed]
        refine ite2 (fun c => ?_) (fun c => ?_)
        · have hfew := of_decide_eq_true c
          refine ⟨_, rfl, _, rfl, n, r, k', L, t, p, i, G6, rfl, S6.x.gh, DP4.mono S6.x.gg, ok, hi, hfew, fun G7 H7 df S x7 hS hdf => ?_⟩
          have S7 := S6.pu x7
          obtain ⟨z, S', eS⟩ := stops_ne ok hi e hS
          have hdf0 := hdf
          obtain ⟨_, ds, e2, hdp, hds⟩ := hdf
          cases e2
          obtain ⟨u, hu, hur⟩ := All2.get (i := 0) (x := z) hds (by rw [eS]; rfl)
          have hf7 := x7.same _ _ hf6
          have gf7 := x7.fr fp (by rw [hf6]; simp) gf6
          refine ⟨_, rfl, .inl ⟨rfl, _, SqL.of hf7⟩, _, rfl, df, _, 0, _, rfl, rfl, SqL.of (S7.x.gh _ _ hdp), atI_nat (j := 0) hu, ?_⟩
          have al := ha6.len
          have al2 := List.length_filter_le (okP n r L t) (List.range i)
          rw [List.length_range] at al2
          refine ⟨fp, _, _, rfl, rfl, hf7, by omega, ?_⟩
          have S8 := S7.mut (o := .lst (acc ++ [u])) (fun w h => by rw [hfp] at h; cases h) gf7 hf7 fpb
          refine ⟨_, rfl, _, rfl, _, rfl, _, rfl, _, rfl, ?_⟩
          refine fin (.ref df) _ G7 _ (acc ++ [u]) S8 gf7 upd_same ?_ ?_ (.inr ⟨df, S, rfl, hfew, hS, hdf0⟩)
          · have e1 : (List.range (i + 1)).filter (okP n r L t) = (List.range i).filter (okP n r L t) ++ [i] := by
              rw [List.range_succ, List.filter_append]
              have : okP n r L t i = true := by unfold okP; rw [decide_eq_false e, decide_eq_true hfew]; rfl
              rw [List.filter_cons, this]; rfl
            rw [e1]
            exact (All2.mono x7.gg ha6).app (.one ⟨S, z, hS, by rw [eS]; rfl, hur⟩)
          · rw [List.range_succ, List.any_append, List.any_cons, List.any_nil]
            have : manyP n r L t i = false := by unfold manyP; rw [decide_eq_false (by omega : ¬ 20000 < prN n r L t i)]; simp
            rw [this]; simp
        · have hmany : 20000 < prN n r L t i := by
            have := of_decide_eq_false (Bool.eq_false_iff.mpr c); omega
          refine ⟨_, rfl, _, rfl, _, rfl, _, rfl, _, rfl, ?_⟩
          refine fin .non true G6 H6 acc S6 gf6 hf6 ?_ ?_ (.inl ⟨rfl, hmany⟩)
          · have e1 : (List.range (i + 1)).filter (okP n r L t) = (List.range i).filter (okP n r L t) := by
              rw [List.range_succ, List.filter_append]
              have : okP n r L t i = false := by unfold okP; rw [decide_eq_false (by omega : ¬ prN n r L t i ≤ 20000)]; simp
              rw [List.filter_cons, this]; simp
            rw [e1]; exact ha6
          · rw [List.range_succ, List.any_append, List.any_cons, List.any_nil]
            have : manyP n r L t i = true := by unfold manyP; rw [decide_eq_true hmany, decide_eq_false e]; rfl
            rw [this]; simp
    · rintro σ H5 ⟨G5, acc, o6, o7, rfl, S5, gf, hf, hacc⟩
      refine ⟨S5.T, fun H6 eP T6 => ?_⟩
      have S6 := S5.lam eP T6
      have hf6 : H6 fp = some (.lst acc) := eP _ _ hf (by intro _ z; cases z)
      refine ⟨_, rfl, n, r, L, t, k', v, G5, rfl, S6.x.gh, N.mono S6.x.gg, ok, fun hmany H7 d s hd => ?_, fun hfew G7 H7 fv x x7 hx hfx => ?_⟩
      · have em : (List.range n).any (manyP n r L t) = true := by
          obtain ⟨p', h1, h2, h3⟩ := hmany
          refine List.any_eq_true.mpr ⟨p', List.mem_range.mpr h1, ?_⟩
          unfold manyP; rw [decide_eq_false h2, decide_eq_true h3]; rfl
        refine ⟨rfl, d, rfl, hd, fun q hq => ?_⟩
        have S7 := S6.pu (Xt.ofSame S6.x.gh s)
        have x8 := (Xt.refl (m := Pu) S7.x.gh).new hq (.tup [.str "many", .int 20000, .bl true])
        have S8 := S7.pu x8
        refine ⟨_, rfl, _, rfl, ?_⟩
        rw [em]
        refine iteT ?_
        refine ⟨_, rfl, by show 3 ≤ _; omega, fun u hu => ?_⟩
        have x9 := (Xt.refl (m := Pu) S8.x.gh).new hu (.tup [.str "many", .int 20000, .bl true])
        refine ⟨dMany, dMany, dp_many (x9.old upd_same), dp_many upd_same, many_ok.1, many_ok.1, ?_⟩
        rw [many_ok.2]
        exact k _
      · have em : (List.range n).any (manyP n r L t) = false := List.any_eq_false.mpr fun p' hp' => by
          unfold manyP
          by_cases h : p' = r
          · rw [decide_eq_true h]; simp
          · rw [decide_eq_false (by have := hfew p' (List.mem_range.mp hp') h; omega : ¬ 20000 < prN n r L t p')]; simp
        have S7 := S6.pu x7
        refine ⟨by omega, fun q hq => ⟨_, rfl, ?_⟩⟩
        have x8 := (Xt.refl (m := Pu) S7.x.gh).new hq (.tup [.str "told", fv])
        have S8 := S7.pu x8
        refine ⟨_, rfl, ?_⟩
        rw [em]
        refine ⟨false, rfl, iteF ?_⟩
        have allok : ∀ p', p' < n → p' ≠ r → p' ∈ (List.range n).filter (okP n r L t) := fun p' h1 h2 => List.mem_filter.mpr ⟨List.mem_range.mpr h1, by
          unfold okP; rw [decide_eq_false h2, decide_eq_true (hfew p' h1 h2)]; rfl⟩
        have okall : ∀ p', p' ∈ (List.range n).filter (okP n r L t) → p' < n ∧ p' ≠ r := fun p' h => by
          obtain ⟨h1, h2⟩ := List.mem_filter.mp h
          refine ⟨List.mem_range.mp h1, fun z => ?_⟩
          unfold okP at h2
          rw [decide_eq_true z] at h2; cases h2
        have mn : ∀ (G9 H9 : Hp) (R : VK), Same G5 G9 → Same G9 H9 → H9 fp = some (.lst acc) → (∀ u, rT rN x u G9 → R u H9) → SpM.rMinTT K [.ref fp] H9 R := by
          intro G9 H9 R s1 s2 hf9 kR
          have ha9 := All2.mono s1 hacc
          have key : ∀ u ∈ acc, ∃ p' z S, p' < n ∧ p' ≠ r ∧ StopsL (ways n r L t p') (t.length + 1 - k') S ∧ S.head? = some z ∧ rT rN z u G9 := fun u hu => by
            obtain ⟨p', hp', S, z, h1, h2, h3⟩ := all2_mem ha9 hu
            exact ⟨p', z, S, (okall p' hp').1, (okall p' hp').2, h1, h2, h3⟩
          refine ⟨fp, acc, kOf G9, rfl, SqL.of hf9, ?_, ?_, ?_⟩
          · intro ea
            have h0 := ha9.len
            rw [ea] at h0
            obtain ⟨p', h1, h2⟩ := other (r := r) ok.n2
            have := List.length_pos_of_mem (allok p' h1 h2)
            rw [List.length_nil] at h0
            omega
          · intro u hu
            obtain ⟨p', z, S, _, _, _, _, h3⟩ := key u hu
            rw [kOf_eq h3]
            obtain ⟨lp2, rfl, hlp2⟩ := rT_nat h3
            rw [map_nV] at hlp2
            exact ⟨lp2, rfl, SqT.of (s2 _ _ hlp2)⟩
          · intro u hu hmin
            obtain ⟨p', z, S, h1, h2, h3, h4, h5⟩ := key u hu
            obtain ⟨px, Sx, hx1, hx2, hx3, hx4, hx5⟩ := hx
            have c1 := hx5 p' S z h1 h2 h3 h4
            obtain ⟨v2, hv2, S2, x2', q1, q2, q3⟩ := all2_memL ha9 (allok px hx1 hx2)
            have c2 := hmin v2 hv2
            rw [kOf_eq h5, kOf_eq q3] at c2
            have eS := hx3.uniq q1
            rw [← eS, hx4] at q2
            rw [← Option.some.inj q2] at c2
            have ez : z = x := keyN_inj (lex_anti c1 c2)
            rw [ez] at h5
            exact kR u h5
        obtain ⟨lx1, lx2⟩ := lay_T x
        have tok := told_ok lx1 (by omega)
        have hf7 := x7.same _ _ hf6
        have hf8 : (upd H7 q (.tup [.str "told", fv])) fp = some (.lst acc) := x8.same _ _ hf7
        have gq8 : (upd G7 q (.tup [.str "told", fv])) q = some (.tup [.str "told", fv]) := upd_same
        have hfv8 := Mn.mono (R := rT rN) x8.gg hfx
        have sG8 := x7.gg.trans x8.gg
        generalize upd G7 q (.tup [.str "told", fv]) = G8 at S8 gq8 hfv8 sG8
        generalize upd H7 q (.tup [.str "told", fv]) = H8 at S8 hf8
        refine ⟨_, rfl, _, rfl, mn G8 H8 _ sG8 S8.x.gh hf8 fun u hu => ?_⟩
        refine ⟨by show 2 ≤ _; omega, fun q2 hq2 => ?_⟩
        have x9 := (Xt.refl (m := Pu) S8.x.gh).new hq2 (.tup [.str "told", u])
        have S9 := S8.pu x9
        refine ⟨dTold (dT x), dTold (dT x), dp_told (x9.old gq8) (dp_T S9.x.gh (Mn.mono x9.gg hfv8)), dp_told upd_same (dp_T S9.x.gh (Mn.mono x9.gg hu)), tok.1, tok.1, ?_⟩
        rw [tok.2]
        refine ⟨true, rfl, iteT ?_⟩
        have hf9 := x9.same _ _ hf8
        refine ⟨_, rfl, _, rfl, mn _ _ _ (sG8.trans x9.gg) S9.x.gh hf9 fun u2 hu2 => ?_⟩
        obtain ⟨up, rfl, hup⟩ := rT_nat hu2
        obtain ⟨px, Sx, hx1, hx2, hx3, hx4, hx5⟩ := hx
        have hxS : x ∈ Sx := by
          cases Sx with
          | nil => cases hx4
          | cons y ys => rw [← Option.some.inj hx4]; exact List.mem_cons_self
        have hraw := hx3.perm.mem_iff.mp hxS
        have D := ways_disj ok hx1
        refine ⟨n, r, L, t, k', v, up, x, _, rfl, S9.x.gh, N.mono S9.x.gg, ok, hup, raw_asc D hraw, lot_lt ok hx1 hx3 hxS, fun G10 H10 sf x10 hsf => ?_⟩
        have hmem : px ∈ (List.range n).filter fun p => stopB n r L t k' p x := (mem_stopped (f := fun p => stopB n r L t k' p x) hx1).mpr ((stop_iff ok.km).mpr (raw_full hraw))
        have S10 := S9.pu x10
        refine ⟨by show 0 ≤ _; omega, fun e0 he0 => ?_⟩
        have x11 := (Xt.refl (m := Pu) S10.x.gh).new he0 (.tup [])
        have l1 := lay_T ((List.range n).filter fun p => stopB n r L t k' p x)
        refine ⟨dT ((List.range n).filter fun p => stopB n r L t k' p x), .tuple [], .tup (SqT.of (x11.old hsf)) (dp_nats _), .tup (SqT.of upd_same) .nil, shaped_of l1.1 (by omega), by decide +kernel, ?_⟩
        have ene : PyData.eqv (dT ((List.range n).filter fun p => stopB n r L t k' p x)) (.tuple []) = false := by
          generalize (List.range n).filter (fun p => stopB n r L t k' p x) = ys at hmem
          cases ys with
          | nil => cases hmem
          | cons y ys => simp [PyData.eqv, PyData.eqvAll]
        rw [ene]
        exact k _
end
end Sp
end

section
set_option Elab.async false
set_option linter.all false
set_option maxRecDepth 100000
set_option maxHeartbeats 0
/-! Sparetrees: the head: what the top leaves, and the end. -/
namespace Sp
open PySem PySem.Spec PyProof.Rows L2
def oexB (K : PySem.W.Frag) (C : Addr) : Bool := match K.lookup C with
  | some ⟨.type t, _, .cls cd, sl⟩ => (match cd.mro, sl.toList with
    | .ref C' :: bm, [_, _, _, _, some (.builtin n), _] => decide (t = "type") && (decide (C' = C) && (decide (n = "ValueError.__new__") && (!cd.hasDel && (cd.hasDict && PySem.HandSPX.refsVE bm))))
    | _, _ => false)
  | _ => false
theorem oexB_ok {K : PySem.W.Frag} {C : Addr} (q : oexB K C = true) : ∃ nm q N bs bm sn sub ab col dd k0 k1 k2 k3 k5, K.lookup C = some (excClassObj nm q C N bs bm true sn sub ab col dd k0 k1 k2 k3 k5 "ValueError.__new__") ∧ PySem.HandSPX.refsVE bm = true := by
  unfold oexB at q
  split at q
  · rename_i t dd cd sl ho
    split at q
    · rename_i C' bm k0 k1 k2 k3 n k5 hm hs
      obtain ⟨h0, q⟩ := Bool.and_eq_true_iff.mp q
      obtain ⟨h1, q⟩ := Bool.and_eq_true_iff.mp q
      obtain ⟨h2, q⟩ := Bool.and_eq_true_iff.mp q
      obtain ⟨h3, q⟩ := Bool.and_eq_true_iff.mp q
      obtain ⟨h4, h5⟩ := Bool.and_eq_true_iff.mp q
      have e0 := of_decide_eq_true h0
      have e1 := of_decide_eq_true h1
      have e2 := of_decide_eq_true h2
      subst e0 e1 e2
      obtain ⟨nm, bs, mro, ns, qn, hd, sn, sub, ab, col, del⟩ := cd
      dsimp only at hm h3 h4
      have h3 : del = false := by simpa using h3
      subst hm h3 h4
      have hsl : sl = #[k0, k1, k2, k3, some (.builtin "ValueError.__new__"), k5] := by
        obtain ⟨l⟩ := sl
        simp only at hs
        rw [hs]
      subst hsl
      exact ⟨nm, qn, ns, bs, bm, sn, sub, ab, col, dd, k0, k1, k2, k3, k5, ho, h5⟩
    · cases q
  · cases q
def loose1 : List Str := ["is_integer", "is_within", "is_pair", "is_lot", "TreeError", "BadNet", "NoNet", "NoLot", "NoNumber", "NoPlace", "NoTree", "TooMany", "NoPacking", "NoPlan", "LEAST_PLACES", "MOST_PLACES"]
def loose2 : List Str := ["MOST_LINKS", "Net", "is_link", "check_net", "is_lot_of", "reached", "is_wood", "is_grown", "is_tree", "are_apart", "is_packing", "check_tree", "links_to", "depths", "way_in", "MOST_SIZE"]
def loose3 : List Str := ["MOST_WORDS", "Plan", "check_plan", "depth_of", "check_lost", "MOST_LISTED", "cut_trees", "is_stopped", "stopped", "too_many_stops", "choices", "stops_of", "stops", "least_stop", "_law_mixed", "_law_bag"]
def loose4 : List Str := ["_law_draw", "_law_tree", "_law_plan", "_law_made", "_law_way", "_law_lot", "_law_chosen", "_law_stops", "_law_product", "_law_told", "_law_are_least", "_law_is_place_right"]
def loose : List Str := loose1 ++ (loose2 ++ (loose3 ++ (loose4)))
def fa1 : List He.Fa := [.free "isinstance", .free "int", .free "bool", .free "tuple", .free "len", .free "list", .free "set", .free "sorted", .free "any", .free "all", .free "range", .free "enumerate", .free "min", .free "abs", .int "LEAST_PLACES" 2, .int "MOST_PLACES" 10]
def fa2 : List He.Fa := [.int "MOST_LINKS" 60, .int "MOST_SIZE" 8, .int "MOST_WORDS" 12, .int "MOST_LISTED" 20000, .glo "Net", .glo "Plan", .glo "TooMany", .glo "TreeError", .cls "Net", .cls "Plan", .mkr "Net", .mkr "Plan", .noat "Net" "many", .noat "Net" "root", .noat "Net" "links", .noat "Plan" "of_net"]
def fa3 : List He.Fa := [.noat "Plan" "by_trees", .noat "Plan" "of_size", .noat "Plan" "kept_depths", .noat "TooMany" "most", .exm "TooMany" "TooMany" true, .glo "is_integer", .glo "is_within", .glo "is_pair", .glo "is_lot", .glo "is_link", .glo "check_net", .glo "is_lot_of", .glo "reached", .glo "is_wood", .glo "is_grown", .glo "is_tree"]
def fa4 : List He.Fa := [.glo "are_apart", .glo "is_packing", .glo "check_tree", .glo "links_to", .glo "depths", .glo "way_in", .glo "check_plan", .glo "depth_of", .glo "check_lost", .glo "cut_trees", .glo "is_stopped", .glo "stopped", .glo "too_many_stops", .glo "choices", .glo "stops_of", .glo "stops"]
def fa5 : List He.Fa := [.glo "least_stop", .glo "_law_mixed", .glo "_law_bag", .glo "_law_draw", .glo "_law_tree", .glo "_law_plan", .glo "_law_made", .glo "_law_way", .glo "_law_lot", .glo "_law_chosen", .glo "_law_stops", .glo "_law_product", .glo "_law_told", .glo "_law_are_least", .glo "_law_is_place_right", .glo "law"]
def fa : List He.Fa := fa1 ++ (fa2 ++ (fa3 ++ (fa4 ++ (fa5))))
def d_is_integer : He.DefD := ⟨("is_integer", none), "is_integer", "is_integer", defArgs (topS 2), defBody (topS 2), defScope (topS 2), [], []⟩
def d_is_within : He.DefD := ⟨("is_within", none), "is_within", "is_within", defArgs (topS 3), defBody (topS 3), defScope (topS 3), [], []⟩
def d_is_pair : He.DefD := ⟨("is_pair", none), "is_pair", "is_pair", defArgs (topS 4), defBody (topS 4), defScope (topS 4), [], []⟩
def d_is_lot : He.DefD := ⟨("is_lot", none), "is_lot", "is_lot", defArgs (topS 5), defBody (topS 5), defScope (topS 5), [], []⟩
def d_is_link : He.DefD := ⟨("is_link", none), "is_link", "is_link", defArgs (topS 22), defBody (topS 22), defScope (topS 22), [], []⟩
def d_check_net : He.DefD := ⟨("check_net", none), "check_net", "check_net", defArgs (topS 23), defBody (topS 23), defScope (topS 23), [], []⟩
def d_is_lot_of : He.DefD := ⟨("is_lot_of", none), "is_lot_of", "is_lot_of", defArgs (topS 24), defBody (topS 24), defScope (topS 24), [], []⟩
def d_reached : He.DefD := ⟨("reached", none), "reached", "reached", defArgs (topS 26), defBody (topS 26), defScope (topS 26), [], []⟩
def d_is_wood : He.DefD := ⟨("is_wood", none), "is_wood", "is_wood", defArgs (topS 27), defBody (topS 27), defScope (topS 27), [], []⟩
def d_is_grown : He.DefD := ⟨("is_grown", none), "is_grown", "is_grown", defArgs (topS 28), defBody (topS 28), defScope (topS 28), [], []⟩
def d_is_tree : He.DefD := ⟨("is_tree", none), "is_tree", "is_tree", defArgs (topS 29), defBody (topS 29), defScope (topS 29), [], []⟩
def d_are_apart : He.DefD := ⟨("are_apart", none), "are_apart", "are_apart", defArgs (topS 30), defBody (topS 30), defScope (topS 30), [], []⟩
def d_is_packing : He.DefD := ⟨("is_packing", none), "is_packing", "is_packing", defArgs (topS 31), defBody (topS 31), defScope (topS 31), [], []⟩
def d_check_tree : He.DefD := ⟨("check_tree", none), "check_tree", "check_tree", defArgs (topS 33), defBody (topS 33), defScope (topS 33), [], []⟩
def d_links_to : He.DefD := ⟨("links_to", none), "links_to", "links_to", defArgs (topS 34), defBody (topS 34), defScope (topS 34), [], []⟩
def d_depths : He.DefD := ⟨("depths", none), "depths", "depths", defArgs (topS 35), defBody (topS 35), defScope (topS 35), [], []⟩
def d_way_in : He.DefD := ⟨("way_in", none), "way_in", "way_in", defArgs (topS 36), defBody (topS 36), defScope (topS 36), [], []⟩
def d_check_plan : He.DefD := ⟨("check_plan", none), "check_plan", "check_plan", defArgs (topS 41), defBody (topS 41), defScope (topS 41), [], []⟩
def d_depth_of : He.DefD := ⟨("depth_of", none), "depth_of", "depth_of", defArgs (topS 42), defBody (topS 42), defScope (topS 42), [], []⟩
def d_check_lost : He.DefD := ⟨("check_lost", none), "check_lost", "check_lost", defArgs (topS 44), defBody (topS 44), defScope (topS 44), [], []⟩
def d_cut_trees : He.DefD := ⟨("cut_trees", none), "cut_trees", "cut_trees", defArgs (topS 47), defBody (topS 47), defScope (topS 47), [], []⟩
def d_is_stopped : He.DefD := ⟨("is_stopped", none), "is_stopped", "is_stopped", defArgs (topS 48), defBody (topS 48), defScope (topS 48), [], []⟩
def d_stopped : He.DefD := ⟨("stopped", none), "stopped", "stopped", defArgs (topS 49), defBody (topS 49), defScope (topS 49), [], []⟩
def d_too_many_stops : He.DefD := ⟨("too_many_stops", none), "too_many_stops", "too_many_stops", defArgs (topS 50), defBody (topS 50), defScope (topS 50), [], []⟩
def d_choices : He.DefD := ⟨("choices", none), "choices", "choices", defArgs (topS 51), defBody (topS 51), defScope (topS 51), [], []⟩
def d_stops_of : He.DefD := ⟨("stops_of", none), "stops_of", "stops_of", defArgs (topS 52), defBody (topS 52), defScope (topS 52), [], []⟩
def d_stops : He.DefD := ⟨("stops", none), "stops", "stops", defArgs (topS 53), defBody (topS 53), defScope (topS 53), [], []⟩
def d_least_stop : He.DefD := ⟨("least_stop", none), "least_stop", "least_stop", defArgs (topS 54), defBody (topS 54), defScope (topS 54), [], []⟩
def d_law_mixed : He.DefD := ⟨("_law_mixed", none), "_law_mixed", "_law_mixed", defArgs (topS 56), defBody (topS 56), defScope (topS 56), [], []⟩
def d_law_bag : He.DefD := ⟨("_law_bag", none), "_law_bag", "_law_bag", defArgs (topS 57), defBody (topS 57), defScope (topS 57), [], []⟩
def d_law_draw : He.DefD := ⟨("_law_draw", none), "_law_draw", "_law_draw", defArgs (topS 58), defBody (topS 58), defScope (topS 58), [], []⟩
def d_law_tree : He.DefD := ⟨("_law_tree", none), "_law_tree", "_law_tree", defArgs (topS 59), defBody (topS 59), defScope (topS 59), [], []⟩
def d_law_plan : He.DefD := ⟨("_law_plan", none), "_law_plan", "_law_plan", defArgs (topS 60), defBody (topS 60), defScope (topS 60), [], []⟩
def d_law_made : He.DefD := ⟨("_law_made", none), "_law_made", "_law_made", defArgs (topS 61), defBody (topS 61), defScope (topS 61), [], []⟩
def d_law_way : He.DefD := ⟨("_law_way", none), "_law_way", "_law_way", defArgs (topS 62), defBody (topS 62), defScope (topS 62), [], []⟩
def d_law_lot : He.DefD := ⟨("_law_lot", none), "_law_lot", "_law_lot", defArgs (topS 63), defBody (topS 63), defScope (topS 63), [], []⟩
def d_law_chosen : He.DefD := ⟨("_law_chosen", none), "_law_chosen", "_law_chosen", defArgs (topS 64), defBody (topS 64), defScope (topS 64), [], []⟩
def d_law_stops : He.DefD := ⟨("_law_stops", none), "_law_stops", "_law_stops", defArgs (topS 65), defBody (topS 65), defScope (topS 65), [], []⟩
def d_law_product : He.DefD := ⟨("_law_product", none), "_law_product", "_law_product", defArgs (topS 66), defBody (topS 66), defScope (topS 66), [], []⟩
def d_law_told : He.DefD := ⟨("_law_told", none), "_law_told", "_law_told", defArgs (topS 67), defBody (topS 67), defScope (topS 67), [], []⟩
def d_law_are_least : He.DefD := ⟨("_law_are_least", none), "_law_are_least", "_law_are_least", defArgs (topS 68), defBody (topS 68), defScope (topS 68), [], []⟩
def d_law_is_place_right : He.DefD := ⟨("_law_is_place_right", none), "_law_is_place_right", "_law_is_place_right", defArgs (topS 69), defBody (topS 69), defScope (topS 69), [], []⟩
def d_law : He.DefD := ⟨("law", none), "law", "law", defArgs (topS 70), defBody (topS 70), defScope (topS 70), [], []⟩
def d_Net_init : He.DefD := ⟨("Net", some "__init__"), "__init__", "Net.__init__", defArgs (inClass (topS 21) 0), defBody (inClass (topS 21) 0), defScope (inClass (topS 21) 0), [], []⟩
def d_Plan_init : He.DefD := ⟨("Plan", some "__init__"), "__init__", "Plan.__init__", defArgs (inClass (topS 40) 0), defBody (inClass (topS 40) 0), defScope (inClass (topS 40) 0), [], []⟩
def d_TooMany_init : He.DefD := ⟨("TooMany", some "__init__"), "__init__", "TooMany.__init__", defArgs (inClass (topS 14) 0), defBody (inClass (topS 14) 0), defScope (inClass (topS 14) 0), [], []⟩
def fn1 : List He.DefD := [d_is_integer, d_is_within, d_is_pair, d_is_lot, d_is_link, d_check_net, d_is_lot_of, d_reached, d_is_wood, d_is_grown, d_is_tree, d_are_apart, d_is_packing, d_check_tree, d_links_to, d_depths]
def fn2 : List He.DefD := [d_way_in, d_check_plan, d_depth_of, d_check_lost, d_cut_trees, d_is_stopped, d_stopped, d_too_many_stops, d_choices, d_stops_of, d_stops, d_least_stop, d_law_mixed, d_law_bag, d_law_draw, d_law_tree]
def fn3 : List He.DefD := [d_law_plan, d_law_made, d_law_way, d_law_lot, d_law_chosen, d_law_stops, d_law_product, d_law_told, d_law_are_least, d_law_is_place_right, d_law, d_Net_init, d_Plan_init, d_TooMany_init]
def fn : List He.DefD := fn1 ++ (fn2 ++ (fn3))
def tf : List He.Defn := [("_law_is_place_right", none), ("law", none)]
def exL (K : PySem.W.Frag) : List Bool := [He.eqO (PySem.W.nsIn K mainGlobals "combinations") (some (some (.type "itertools.combinations"))),
  He.eqO (PySem.W.findIn K (.ref (He.ga K "Net")) "__class__") (some (some (.builtin "object.__class__"))),
  decide (PySem.W.mroIn K (He.ga K "Net") (.type "object") = some true),
  decide (PySem.W.kitOne K (.ref (He.ga K "Net")) (.ref (He.ga K "Net")) = some true),
  He.eqO (PySem.W.findIn K (.ref (He.ga K "Plan")) "__class__") (some (some (.builtin "object.__class__"))),
  decide (PySem.W.mroIn K (He.ga K "Plan") (.type "object") = some true),
  decide (PySem.W.kitOne K (.ref (He.ga K "Plan")) (.ref (He.ga K "Plan")) = some true),
  He.eqO (PySem.W.specialIn K (.builtin "object.__class__") "__get__") (some (some (.builtin "getset_descriptor.__get__"))),
  decide (PySem.W.takesIn K (.builtin "object.__class__") = some true),
  oexB K (He.ga K "TooMany"),
  He.eqO (PySem.W.findIn K (.ref (He.ga K "TooMany")) "__setattr__") (some (some (.builtin "object.__setattr__"))),
  decide (PySem.W.subIn K (.ref (He.ga K "TooMany")) (.type "BaseException") = some true),
  decide (PySem.W.typeIn K (.ref (He.ga K "TooMany")) = some (.type "type")),
  PySem.W.keepIn K (.ref (He.ga K "TooMany")),
  He.eqO (PySem.W.findIn K (.ref (He.ga K "TooMany")) "__getattribute__") (some (some (.builtin "BaseException.__getattribute__"))),
  He.eqO (PySem.W.findIn K (.ref (He.ga K "TooMany")) "__getattr__") (some none),
  PySem.W.hasDictIn K (He.ga K "TooMany"),
  He.eqO (PySem.W.findIn K (.ref (He.ga K "TooMany")) "__class__") (some (some (.builtin "object.__class__"))),
  decide (PySem.W.mroIn K (He.ga K "TooMany") (.type "object") = some true),
  He.eqO (PySem.W.findIn K (.ref (He.ga K "TooMany")) "__init__") (some (some (.ref (He.ma K (He.ga K "TooMany") "__init__")))),
  decide (PySem.W.typeIn K (.ref (He.ma K (He.ga K "TooMany") "__init__")) = some (.type "function")),
  decide (PySem.W.kitOne K (.ref (He.ga K "TooMany")) (.ref (He.ga K "TreeError")) = some true),
  !decide ((cR K).2 = (cL K).2)]
def ex (K : PySem.W.Frag) : Bool := (exL K).all id
theorem exf {K : PySem.W.Frag} (c : ex K = true) (i : Nat) {b : Bool} (h : (exL K)[i]? = some b) : b = true := List.all_eq_true.mp c b (List.mem_of_getElem? h)
abbrev R : PySem.W.OpenRow := PySem.W.OpenLaw.row PySem.Challenge.rw_sparetrees_k52_whole_least_lots_that_sto
abbrev hk : PySem.W.Hook := He.hookX 6 fa fn [] tf ex
def ob (s : PySem.W.SharedT) : He.AlX := He.obsX 6 fa fn [] tf ex (HandSHeadRun.getT s)
theorem ob_eq (s : PySem.W.SharedT) : ob s = hk.obs s.abs := He.obsX_eq (HandSHeadRun.getT_eq s)
theorem run (w : World) : HandSHeadRun.RunEqI R (PySem.W.view R.prog [0, 70]) hk ob 6000 loose w := by
  unfold HandSHeadRun.RunEqI
  kernel_rfl
theorem txt {K : PySem.W.Frag} {h : Heap} {mg : Str → Option Value} (X : K.In h) (G : h.Ns mainGlobals mg) (c : He.SaysD fa fn K) (c2 : ex K = true) : Txt K mg where
  b_isinstance := He.free_ok X G (c.fact 0 (f := .free "isinstance") rfl)
  b_int := He.free_ok X G (c.fact 1 (f := .free "int") rfl)
  b_bool := He.free_ok X G (c.fact 2 (f := .free "bool") rfl)
  b_tuple := He.free_ok X G (c.fact 3 (f := .free "tuple") rfl)
  b_len := He.free_ok X G (c.fact 4 (f := .free "len") rfl)
  b_list := He.free_ok X G (c.fact 5 (f := .free "list") rfl)
  b_set := He.free_ok X G (c.fact 6 (f := .free "set") rfl)
  b_sorted := He.free_ok X G (c.fact 7 (f := .free "sorted") rfl)
  b_any := He.free_ok X G (c.fact 8 (f := .free "any") rfl)
  b_all := He.free_ok X G (c.fact 9 (f := .free "all") rfl)
  b_range := He.free_ok X G (c.fact 10 (f := .free "range") rfl)
  b_enumerate := He.free_ok X G (c.fact 11 (f := .free "enumerate") rfl)
  b_min := He.free_ok X G (c.fact 12 (f := .free "min") rfl)
  b_abs := He.free_ok X G (c.fact 13 (f := .free "abs") rfl)
  c_LEAST_PLACES := He.int_ok X G (c.fact 14 (f := .int "LEAST_PLACES" 2) rfl)
  c_MOST_PLACES := He.int_ok X G (c.fact 15 (f := .int "MOST_PLACES" 10) rfl)
  c_MOST_LINKS := He.int_ok X G (c.fact 16 (f := .int "MOST_LINKS" 60) rfl)
  c_MOST_SIZE := He.int_ok X G (c.fact 17 (f := .int "MOST_SIZE" 8) rfl)
  c_MOST_WORDS := He.int_ok X G (c.fact 18 (f := .int "MOST_WORDS" 12) rfl)
  c_MOST_LISTED := He.int_ok X G (c.fact 19 (f := .int "MOST_LISTED" 20000) rfl)
  g_combinations := PySem.W.mg_of X G (He.eqO_ok (exf c2 0 rfl))
  net := ⟨He.glo_ok X G (c.fact 20 (f := .glo "Net") rfl), He.cls_ok (c.fact 24 (f := .cls "Net") rfl), He.mkr_ok (c.fact 26 (f := .mkr "Net") rfl), He.eqO_ok (exf c2 1 rfl), He.eqO_ok (exf c2 7 rfl), of_decide_eq_true (exf c2 8 rfl), of_decide_eq_true (exf c2 2 rfl), of_decide_eq_true (exf c2 3 rfl), c.def_ 43 (d := d_Net_init) rfl⟩
  plan := ⟨He.glo_ok X G (c.fact 21 (f := .glo "Plan") rfl), He.cls_ok (c.fact 25 (f := .cls "Plan") rfl), He.mkr_ok (c.fact 27 (f := .mkr "Plan") rfl), He.eqO_ok (exf c2 4 rfl), He.eqO_ok (exf c2 7 rfl), of_decide_eq_true (exf c2 8 rfl), of_decide_eq_true (exf c2 5 rfl), of_decide_eq_true (exf c2 6 rfl), c.def_ 44 (d := d_Plan_init) rfl⟩
  net_many := He.noat_ok (c.fact 28 (f := .noat "Net" "many") rfl)
  net_root := He.noat_ok (c.fact 29 (f := .noat "Net" "root") rfl)
  net_links := He.noat_ok (c.fact 30 (f := .noat "Net" "links") rfl)
  plan_net := He.noat_ok (c.fact 31 (f := .noat "Plan" "of_net") rfl)
  plan_trees := He.noat_ok (c.fact 32 (f := .noat "Plan" "by_trees") rfl)
  plan_size := He.noat_ok (c.fact 33 (f := .noat "Plan" "of_size") rfl)
  plan_depths := He.noat_ok (c.fact 34 (f := .noat "Plan" "kept_depths") rfl)
  d_is_integer := ⟨He.glo_ok X G (c.fact 37 (f := .glo "is_integer") rfl), c.def_ 0 (d := d_is_integer) rfl⟩
  d_is_within := ⟨He.glo_ok X G (c.fact 38 (f := .glo "is_within") rfl), c.def_ 1 (d := d_is_within) rfl⟩
  d_is_pair := ⟨He.glo_ok X G (c.fact 39 (f := .glo "is_pair") rfl), c.def_ 2 (d := d_is_pair) rfl⟩
  d_is_lot := ⟨He.glo_ok X G (c.fact 40 (f := .glo "is_lot") rfl), c.def_ 3 (d := d_is_lot) rfl⟩
  d_is_link := ⟨He.glo_ok X G (c.fact 41 (f := .glo "is_link") rfl), c.def_ 4 (d := d_is_link) rfl⟩
  d_check_net := ⟨He.glo_ok X G (c.fact 42 (f := .glo "check_net") rfl), c.def_ 5 (d := d_check_net) rfl⟩
  d_is_lot_of := ⟨He.glo_ok X G (c.fact 43 (f := .glo "is_lot_of") rfl), c.def_ 6 (d := d_is_lot_of) rfl⟩
  d_reached := ⟨He.glo_ok X G (c.fact 44 (f := .glo "reached") rfl), c.def_ 7 (d := d_reached) rfl⟩
  d_is_wood := ⟨He.glo_ok X G (c.fact 45 (f := .glo "is_wood") rfl), c.def_ 8 (d := d_is_wood) rfl⟩
  d_is_grown := ⟨He.glo_ok X G (c.fact 46 (f := .glo "is_grown") rfl), c.def_ 9 (d := d_is_grown) rfl⟩
  d_is_tree := ⟨He.glo_ok X G (c.fact 47 (f := .glo "is_tree") rfl), c.def_ 10 (d := d_is_tree) rfl⟩
  d_are_apart := ⟨He.glo_ok X G (c.fact 48 (f := .glo "are_apart") rfl), c.def_ 11 (d := d_are_apart) rfl⟩
  d_is_packing := ⟨He.glo_ok X G (c.fact 49 (f := .glo "is_packing") rfl), c.def_ 12 (d := d_is_packing) rfl⟩
  d_check_tree := ⟨He.glo_ok X G (c.fact 50 (f := .glo "check_tree") rfl), c.def_ 13 (d := d_check_tree) rfl⟩
  d_links_to := ⟨He.glo_ok X G (c.fact 51 (f := .glo "links_to") rfl), c.def_ 14 (d := d_links_to) rfl⟩
  d_depths := ⟨He.glo_ok X G (c.fact 52 (f := .glo "depths") rfl), c.def_ 15 (d := d_depths) rfl⟩
  d_way_in := ⟨He.glo_ok X G (c.fact 53 (f := .glo "way_in") rfl), c.def_ 16 (d := d_way_in) rfl⟩
  d_check_plan := ⟨He.glo_ok X G (c.fact 54 (f := .glo "check_plan") rfl), c.def_ 17 (d := d_check_plan) rfl⟩
  d_depth_of := ⟨He.glo_ok X G (c.fact 55 (f := .glo "depth_of") rfl), c.def_ 18 (d := d_depth_of) rfl⟩
  d_check_lost := ⟨He.glo_ok X G (c.fact 56 (f := .glo "check_lost") rfl), c.def_ 19 (d := d_check_lost) rfl⟩
  d_cut_trees := ⟨He.glo_ok X G (c.fact 57 (f := .glo "cut_trees") rfl), c.def_ 20 (d := d_cut_trees) rfl⟩
  d_is_stopped := ⟨He.glo_ok X G (c.fact 58 (f := .glo "is_stopped") rfl), c.def_ 21 (d := d_is_stopped) rfl⟩
  d_stopped := ⟨He.glo_ok X G (c.fact 59 (f := .glo "stopped") rfl), c.def_ 22 (d := d_stopped) rfl⟩
  d_too_many_stops := ⟨He.glo_ok X G (c.fact 60 (f := .glo "too_many_stops") rfl), c.def_ 23 (d := d_too_many_stops) rfl⟩
  d_choices := ⟨He.glo_ok X G (c.fact 61 (f := .glo "choices") rfl), c.def_ 24 (d := d_choices) rfl⟩
  d_stops_of := ⟨He.glo_ok X G (c.fact 62 (f := .glo "stops_of") rfl), c.def_ 25 (d := d_stops_of) rfl⟩
  d_stops := ⟨He.glo_ok X G (c.fact 63 (f := .glo "stops") rfl), c.def_ 26 (d := d_stops) rfl⟩
  d_least_stop := ⟨He.glo_ok X G (c.fact 64 (f := .glo "least_stop") rfl), c.def_ 27 (d := d_least_stop) rfl⟩
  d_mixed := ⟨He.glo_ok X G (c.fact 65 (f := .glo "_law_mixed") rfl), c.def_ 28 (d := d_law_mixed) rfl⟩
  d_bag := ⟨He.glo_ok X G (c.fact 66 (f := .glo "_law_bag") rfl), c.def_ 29 (d := d_law_bag) rfl⟩
  d_draw := ⟨He.glo_ok X G (c.fact 67 (f := .glo "_law_draw") rfl), c.def_ 30 (d := d_law_draw) rfl⟩
  d_tree := ⟨He.glo_ok X G (c.fact 68 (f := .glo "_law_tree") rfl), c.def_ 31 (d := d_law_tree) rfl⟩
  d_plan := ⟨He.glo_ok X G (c.fact 69 (f := .glo "_law_plan") rfl), c.def_ 32 (d := d_law_plan) rfl⟩
  d_made := ⟨He.glo_ok X G (c.fact 70 (f := .glo "_law_made") rfl), c.def_ 33 (d := d_law_made) rfl⟩
  d_way := ⟨He.glo_ok X G (c.fact 71 (f := .glo "_law_way") rfl), c.def_ 34 (d := d_law_way) rfl⟩
  d_lot := ⟨He.glo_ok X G (c.fact 72 (f := .glo "_law_lot") rfl), c.def_ 35 (d := d_law_lot) rfl⟩
  d_chosen := ⟨He.glo_ok X G (c.fact 73 (f := .glo "_law_chosen") rfl), c.def_ 36 (d := d_law_chosen) rfl⟩
  d_stops' := ⟨He.glo_ok X G (c.fact 74 (f := .glo "_law_stops") rfl), c.def_ 37 (d := d_law_stops) rfl⟩
  d_product := ⟨He.glo_ok X G (c.fact 75 (f := .glo "_law_product") rfl), c.def_ 38 (d := d_law_product) rfl⟩
  d_told := ⟨He.glo_ok X G (c.fact 76 (f := .glo "_law_told") rfl), c.def_ 39 (d := d_law_told) rfl⟩
  d_are_least := ⟨He.glo_ok X G (c.fact 77 (f := .glo "_law_are_least") rfl), c.def_ 40 (d := d_law_are_least) rfl⟩
  d_right := ⟨He.glo_ok X G (c.fact 78 (f := .glo "_law_is_place_right") rfl), c.def_ 41 (d := d_law_is_place_right) rfl⟩
  d_law := ⟨He.glo_ok X G (c.fact 79 (f := .glo "law") rfl), c.def_ 42 (d := d_law) rfl⟩
  tm := ⟨oexB_ok (exf c2 9 rfl), He.eqO_ok (exf c2 10 rfl), of_decide_eq_true (exf c2 11 rfl), of_decide_eq_true (exf c2 12 rfl), exf c2 13 rfl⟩
  tm_g := He.glo_ok X G (c.fact 22 (f := .glo "TooMany") rfl)
  tm_most := He.noat_ok (c.fact 35 (f := .noat "TooMany" "most") rfl)
  tmE := ⟨He.eqO_ok (exf c2 14 rfl), He.eqO_ok (exf c2 15 rfl), of_decide_eq_true (exf c2 11 rfl), exf c2 16 rfl, He.eqO_ok (exf c2 17 rfl), He.eqO_ok (exf c2 7 rfl), of_decide_eq_true (exf c2 8 rfl), of_decide_eq_true (exf c2 18 rfl)⟩
  tm_init := He.eqO_ok (exf c2 19 rfl)
  tm_ty := of_decide_eq_true (exf c2 20 rfl)
  tm_fd := c.def_ 45 (d := d_TooMany_init) rfl
  tm_same := He.exm_ok (c.fact 36 (f := .exm "TooMany" "TooMany" true) rfl)
  te_g := He.glo_ok X G (c.fact 23 (f := .glo "TreeError") rfl)
  te_kit := of_decide_eq_true (exf c2 21 rfl)
theorem tabs_ne {K : PySem.W.Frag} (c2 : ex K = true) : (cR K).2 ≠ (cL K).2 := fun z => by
  have h := exf c2 22 rfl
  rw [decide_eq_true z] at h
  cases h
theorem lawAt {w : World} {K : PySem.W.Frag} {mg : Str → Option Value} {f : Addr} {h : Heap} (X : K.In h) (G : h.Ns mainGlobals mg) (hmg : mg ("law" : Str) = some (.ref f)) (c : He.SaysX fa fn [] tf ex w h K) :
    LamX.LawAtS PySem.Challenge.rw_sparetrees_k52_whole_least_lots_that_sto w K CX0 14 63 "_law_script" mg f h := by
  have T := txt X G c.t.d c.more
  obtain ⟨gm, fd, F⟩ := T.d_law
  cases hmg.symm.trans gm
  have b := FunD.bindsA (ps := ["_law_script"]) F fun _ _ _ _ _ _ us hl => match us, hl with | [_], _ => rfl
  have two : ∀ p ∈ [cR K, cL K], ∃ q ∈ tf, p = He.cT K q := fun p hp => by
    rcases List.mem_cons.mp hp with rfl | hp
    · exact ⟨_, List.mem_cons_self, rfl⟩
    · rw [List.mem_singleton.mp hp]
      exact ⟨_, List.mem_cons_of_mem _ List.mem_cons_self, rfl⟩
  refine ⟨fd, [cR K, cL K], sp_law K, fun p hp => ?_, fun p hp => ?_, fun p hp => ?_, fun s v => b s [v] rfl, fun H a ns hl _ hcs hS => ⟨a, ns, rfl, hS, hl, fun p hp => ?_, fun _ => rfl⟩, fun base hK hN hT => ?_⟩
  · obtain ⟨q, hq, rfl⟩ := two p hp
    exact c.empty q hq
  · obtain ⟨q, hq, rfl⟩ := two p hp
    exact c.out q hq
  · obtain ⟨q, hq, rfl⟩ := two p hp
    exact PySem.W.codeHd_of_K X (c.hd q hq)
  · rcases List.mem_cons.mp hp with rfl | hp
    · exact LamX.TabS.nil (hcs _ List.mem_cons_self)
    · rw [List.mem_singleton.mp hp]
      exact LamX.TabS.nil (hcs _ (List.mem_cons_of_mem _ List.mem_cons_self))
  · exact ok_law T (hT _ List.mem_cons_self) (hT _ (List.mem_cons_of_mem _ List.mem_cons_self)) (tabs_ne c.more) F
end Sp
end

set_option Elab.async false
set_option linter.all false
set_option maxRecDepth 100000
set_option maxHeartbeats 0
open PySem PySem.W PySem.Calls PyProof.Rows
theorem PySem.Challenge.cw_sparetrees_k52_whole_least_lots_that_sto_holds : PySem.Challenge.rw_sparetrees_k52_whole_least_lots_that_sto.Holds := by
  w_on; o_law
  refine HandSHeadRun.head_imp (r := OpenLaw.row PySem.Challenge.rw_sparetrees_k52_whole_least_lots_that_sto) (q := view (OpenLaw.row PySem.Challenge.rw_sparetrees_k52_whole_least_lots_that_sto).prog [0, 70]) (H := Sp.hk) (ob := Sp.ob) (M := 6000) (loose := Sp.loose)
    (d := HandSHeadRun.topDef (OpenLaw.row PySem.Challenge.rw_sparetrees_k52_whole_least_lots_that_sto).prog 70) (kwd := []) Sp.ob_eq Sp.run (by kernel_rfl) (by kernel_rfl) (by kernel_rfl) (by rfl) (by first | assumption | decide +kernel) (by decide +kernel) ⟨rfl, rfl, rfl, rfl, rfl, by decide +kernel⟩ ?hw ?hc
  case hw => w_witness2
  case hc =>
    refine LamX.walk_ofTsE (l := PySem.Challenge.rw_sparetrees_k52_whole_least_lots_that_sto) (n := 63) (k := 14) (CX := fun _ => L2.CX0) (x := "_law_script") rfl (by decide) (by kernel_rfl) ⟨rfl, by decide, by decide⟩ ?F (fun _ _ _ _ _ z => z)
    intro w mg fa h Y G hmg0
    obtain ⟨K, KX, c⟩ := Y
    have hmg : mg ("law" : PySem.Str) = some (.ref fa) := by
      have e : (HandSHeadRun.topDef (OpenLaw.row PySem.Challenge.rw_sparetrees_k52_whole_least_lots_that_sto).prog 70).name = ("law" : PySem.Str) := by kernel_rfl
      rw [← e]
      exact hmg0
    exact ⟨K, KX, Sp.lawAt KX G hmg c⟩
