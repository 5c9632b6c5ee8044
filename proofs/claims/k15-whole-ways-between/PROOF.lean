import PyProof.Rows.All
import Wide.All
import OpenK.AllK
import Wide.FinOn
import KE.KDictZip
import KE.GoesEnum
import HandS.Zip0
import HandS.Base
import HandS.Call
import HandS.List
import HandS.Comp
import HandS.Dict
import HandS.Iter
import HandS.Text
import HandS.Ends
import HandS.Words
import HandS.ForMost
import HandS.IsInst
import HandS.Flow
import HandS.Style
import HandS.TupAny
import HandS.Walk
import PyProof.Rows.StrCase
import PySem.Challenge.RW_foretoldforms_k15_whole_ways_between
set_option Elab.async false
set_option linter.all false
section
/-! Ways by spreading: plain mathematics. -/
set_option autoImplicit false
namespace K15
abbrev Bx := Nat × Nat
/-- a node that was come to: row or not, its number, the boxes that lead to it -/
abbrev Nd := Bool × Nat × List Bx

/-- whether a row (column) was come to -/
def hasN (q : List Nd) (k : Bool) (i : Nat) : Bool := q.any fun e => e.1 == k && e.2.1 == i
def addC (e : Nd) (q : List Nd) (b : Bx) : List Nd :=
  if e.1 = true ∧ b.1 = e.2.1 ∧ hasN q false b.2 = false then q ++ [(false, b.2, e.2.2 ++ [b])] else q
def addR (e : Nd) (q : List Nd) (b : Bx) : List Nd :=
  if e.1 = false ∧ b.2 = e.2.1 ∧ hasN q true b.1 = false then q ++ [(true, b.1, e.2.2 ++ [b])] else q
def addN (e : Nd) (q : List Nd) (b : Bx) : List Nd := addR e (addC e q b) b
def turnN (L : List Bx) (e : Nd) (q : List Nd) : List Nd := L.foldl (addN e) q
def sprN (L : List Bx) : Nat → List Nd → Nat → List Nd
  | 0, q, _ => q
  | n + 1, q, d => match q[d]? with
    | none => q
    | some e => sprN L n (turnN L e q) (d + 1)
def spread (L : List Bx) (N root : Nat) : List Nd := sprN L N [(true, root, [])] 0
def wayN (L : List Bx) (N root c : Nat) : Option (List Bx) := ((spread L N root).find? fun e => e.1 == false && e.2.1 == c).map fun e => e.2.2

/-- a walk from the root -/
inductive Wk (L : List Bx) (root : Nat) : Bool → Nat → List Bx → Prop
  | nil : Wk L root true root []
  | col {r c : Nat} {p : List Bx} : Wk L root true r p → (r, c) ∈ L → Wk L root false c (p ++ [(r, c)])
  | row {r c : Nat} {p : List Bx} : Wk L root false c p → (r, c) ∈ L → Wk L root true r (p ++ [(r, c)])

theorem hasN_iff {q : List Nd} {k : Bool} {i : Nat} : hasN q k i = true ↔ ∃ p, (k, i, p) ∈ q := by
  unfold hasN
  rw [List.any_eq_true]
  constructor
  · rintro ⟨⟨k', i', p⟩, hm, h⟩
    simp only [Bool.and_eq_true, beq_iff_eq] at h
    obtain ⟨rfl, rfl⟩ := h
    exact ⟨p, hm⟩
  · rintro ⟨p, hm⟩
    exact ⟨_, hm, by simp⟩
theorem hasN_not {q : List Nd} {k : Bool} {i : Nat} (h : hasN q k i = false) : ∀ p, (k, i, p) ∉ q := fun p hm => by
  have := hasN_iff.mpr ⟨p, hm⟩
  rw [h] at this; cases this

/-- the node on the other end of a box -/
def otherEnd (k : Bool) (b : Bx) : Nat := if k then b.2 else b.1
def thisEnd (k : Bool) (b : Bx) : Nat := if k then b.1 else b.2

theorem wk_nil {L : List Bx} {root : Nat} {k : Bool} {i : Nat} {p : List Bx} (w : Wk L root k i p) (hp : p = []) : k = true ∧ i = root := by
  cases w with
  | nil => exact ⟨rfl, rfl⟩
  | col _ _ => simp at hp
  | row _ _ => simp at hp
/-- the invariant while the node at place d is gone through -/
structure Inv0 (L : List Bx) (root : Nat) (q : List Nd) : Prop where
  hd : q[0]? = some (true, root, [])
  wk : ∀ e ∈ q, Wk L root e.1 e.2.1 e.2.2
  uq : ∀ k i p p', (k, i, p) ∈ q → (k, i, p') ∈ q → p = p'
  pre : ∀ k i p b, (k, i, p ++ [b]) ∈ q → (!k, otherEnd k b, p) ∈ q ∧ thisEnd k b = i
  nod : (q.map fun e => (e.1, e.2.1)).Nodup
  srt : q.Pairwise fun a b => a.2.2.length ≤ b.2.2.length
  ne : ∀ k i p b b', (k, i, p ++ [b, b']) ∈ q → b ≠ b'
  lenix : ∀ (j : Nat) (e : Nd), q[j]? = some e → e.2.2.length ≤ j

theorem inv0_start (L : List Bx) (root : Nat) : Inv0 L root [(true, root, [])] where
  hd := rfl
  wk := by
    intro e h
    rw [List.mem_singleton] at h; subst h
    exact .nil
  uq := by
    intro k i p p' h h'
    rw [List.mem_singleton] at h h'
    injection h with _ h; injection h with _ h
    injection h' with _ h'; injection h' with _ h'
    rw [h, h']
  pre := by
    intro k i p b h
    rw [List.mem_singleton] at h
    injection h with _ h; injection h with _ h
    simp at h
  nod := by simp
  srt := by simp
  ne := by
    intro k i p b b' h
    rw [List.mem_singleton] at h
    injection h with _ h; injection h with _ h
    simp at h
  lenix := by
    intro j e h
    cases j with
    | zero => simp at h; subst h; exact Nat.le_refl _
    | succ j => simp at h

theorem getElem?_mem {α : Type} {l : List α} {j : Nat} {x : α} (h : l[j]? = some x) : x ∈ l := List.mem_of_getElem? h

/-- adding one new node to the end -/
theorem inv0_add {L : List Bx} {root : Nat} {q : List Nd} {d : Nat} {k : Bool} {i : Nat} {p : List Bx} {b : Bx} (I : Inv0 L root q) (he : q[d]? = some (k, i, p)) (hb : b ∈ L) (hi : thisEnd (!k) b = otherEnd k b)
    (hk : thisEnd k b = i) (hn : hasN q (!k) (otherEnd k b) = false) (hmax : ∀ e ∈ q, e.2.2.length ≤ p.length + 1) : Inv0 L root (q ++ [(!k, otherEnd k b, p ++ [b])]) := by
  have hne := hasN_not hn
  have hm := getElem?_mem he
  have hdlt : d < q.length := (List.getElem?_eq_some_iff.mp he).1
  have hwk : Wk L root (!k) (otherEnd k b) (p ++ [b]) := by
    have w := I.wk _ hm
    obtain ⟨r, c⟩ := b
    cases k with
    | true =>
      simp only [thisEnd, otherEnd, if_true] at hk ⊢
      subst hk
      exact .col w hb
    | false =>
      simp only [thisEnd, otherEnd, Bool.false_eq_true, if_false] at hk ⊢
      subst hk
      exact .row w hb
  refine ⟨?_, ?_, ?_, ?_, ?_, ?_, ?_, ?_⟩
  · rw [List.getElem?_append_left (by omega)]; exact I.hd
  · intro e h
    rcases List.mem_append.mp h with h | h
    · exact I.wk e h
    · rw [List.mem_singleton] at h; subst h; exact hwk
  · intro k' i' p1 p2 h1 h2
    rcases List.mem_append.mp h1 with h1 | h1 <;> rcases List.mem_append.mp h2 with h2 | h2
    · exact I.uq _ _ _ _ h1 h2
    · rw [List.mem_singleton] at h2
      cases h2
      exact absurd h1 (hne _)
    · rw [List.mem_singleton] at h1
      cases h1
      exact absurd h2 (hne _)
    · rw [List.mem_singleton] at h1 h2
      injection h1 with _ h1; injection h1 with _ h1
      injection h2 with _ h2; injection h2 with _ h2
      rw [h1, h2]
  · intro k' i' p' b' h
    rcases List.mem_append.mp h with h | h
    · obtain ⟨h1, h2⟩ := I.pre _ _ _ _ h
      exact ⟨List.mem_append_left _ h1, h2⟩
    · rw [List.mem_singleton] at h
      injection h with h1 h; injection h with h2 h3
      obtain ⟨rfl, h4⟩ := List.append_inj' h3 rfl
      cases h4
      subst h1
      refine ⟨List.mem_append_left _ ?_, by rw [hi, h2]⟩
      have : otherEnd (!k) b = i := by rw [← hk]; cases k <;> rfl
      rw [Bool.not_not, this]
      exact hm
  · rw [List.map_append, List.map_singleton]
    refine List.nodup_append.mpr ⟨I.nod, by simp, ?_⟩
    intro a ha c hc
    rw [List.mem_singleton] at hc
    subst hc
    obtain ⟨⟨k', i', p'⟩, hm', rfl⟩ := List.mem_map.mp ha
    intro e
    injection e with e1 e2
    subst e1; subst e2
    exact hne _ hm'
  · refine List.pairwise_append.mpr ⟨I.srt, by simp, ?_⟩
    intro a ha c hc
    rw [List.mem_singleton] at hc
    subst hc
    have := hmax a ha
    simp only [List.length_append, List.length_singleton]
    exact this
  · intro k' i' p' b1 b2 h
    rcases List.mem_append.mp h with h | h
    · exact I.ne _ _ _ _ _ h
    · rw [List.mem_singleton] at h
      injection h with h1 h; injection h with h2 h3
      have h3' : (p' ++ [b1]) ++ [b2] = p ++ [b] := by rw [← h3]; simp
      obtain ⟨h4, h5⟩ := List.append_inj' h3' rfl
      cases h5
      subst h4
      obtain ⟨h6, h7⟩ := I.pre _ _ _ _ hm
      intro e
      subst e
      exact hne _ h6
  · intro j e h
    by_cases hj : j < q.length
    · rw [List.getElem?_append_left hj] at h
      exact I.lenix j e h
    · rw [List.getElem?_append_right (by omega)] at h
      have hj0 : j - q.length = 0 := by
        rcases Nat.eq_zero_or_pos (j - q.length) with z | z
        · exact z
        · rw [List.getElem?_eq_none (by simp; omega)] at h; cases h
      rw [hj0] at h
      simp at h
      subst h
      have := I.lenix d _ he
      simp only [List.length_append, List.length_singleton]
      simp only at this
      omega

/-- through a turn: a prefix of the boxes is done -/
structure InvT (L : List Bx) (root d : Nat) (e : Nd) (q : List Nd) (done : List Bx) : Prop where
  i0 : Inv0 L root q
  at_ : q[d]? = some e
  mx : ∀ x ∈ q, x.2.2.length ≤ e.2.2.length + 1
  old : ∀ (j : Nat), j < d → ∀ (x : Nd), q[j]? = some x → ∀ b ∈ L, thisEnd x.1 b = x.2.1 → ∃ p, (!x.1, otherEnd x.1 b, p) ∈ q ∧ p.length ≤ x.2.2.length + 1
  dn : ∀ b ∈ done, thisEnd e.1 b = e.2.1 → ∃ p, (!e.1, otherEnd e.1 b, p) ∈ q ∧ p.length ≤ e.2.2.length + 1

theorem addN_eq (k : Bool) (i : Nat) (p : List Bx) (q : List Nd) (b : Bx) :
    addN (k, i, p) q b = if thisEnd k b = i ∧ hasN q (!k) (otherEnd k b) = false then q ++ [(!k, otherEnd k b, p ++ [b])] else q := by
  unfold addN addR addC
  cases k with
  | true =>
    simp only [thisEnd, otherEnd, if_true, Bool.true_eq_false, false_and, if_false, true_and, Bool.not_true]
  | false =>
    simp only [thisEnd, otherEnd, if_true, Bool.false_eq_true, false_and, if_false, true_and, Bool.not_false]

theorem addN_mono (e : Nd) (q : List Nd) (b : Bx) : ∃ r, addN e q b = q ++ r := by
  obtain ⟨k, i, p⟩ := e
  rw [addN_eq]
  split
  · exact ⟨_, rfl⟩
  · exact ⟨[], by simp⟩

theorem invT_step {L : List Bx} {root d : Nat} {e : Nd} {q : List Nd} {done : List Bx} {b : Bx} (I : InvT L root d e q done) (hb : b ∈ L) : InvT L root d e (addN e q b) (done ++ [b]) := by
  obtain ⟨k, i, p⟩ := e
  have hdlt : d < q.length := (List.getElem?_eq_some_iff.mp I.at_).1
  rw [addN_eq]
  split
  · rename_i h
    obtain ⟨h1, h2⟩ := h
    have i0 := inv0_add I.i0 I.at_ hb (by cases k <;> rfl) h1 h2 I.mx
    refine ⟨i0, by rw [List.getElem?_append_left hdlt]; exact I.at_, ?_, ?_, ?_⟩
    · intro x hx
      rcases List.mem_append.mp hx with hx | hx
      · exact I.mx x hx
      · rw [List.mem_singleton] at hx; subst hx; simp
    · intro j hj x hx b' hb' ht
      rw [List.getElem?_append_left (by omega)] at hx
      obtain ⟨p', m, l⟩ := I.old j hj x hx b' hb' ht
      exact ⟨p', List.mem_append_left _ m, l⟩
    · intro b' hb' ht
      rcases List.mem_append.mp hb' with hb' | hb'
      · obtain ⟨p', m, l⟩ := I.dn b' hb' ht
        exact ⟨p', List.mem_append_left _ m, l⟩
      · rw [List.mem_singleton] at hb'; subst hb'
        exact ⟨p ++ [b'], List.mem_append_right _ (by simp), by simp⟩
  · rename_i h
    refine ⟨I.i0, I.at_, I.mx, I.old, ?_⟩
    intro b' hb' ht
    rcases List.mem_append.mp hb' with hb' | hb'
    · exact I.dn b' hb' ht
    · rw [List.mem_singleton] at hb'; subst hb'
      have h2 : hasN q (!k) (otherEnd k b') = true := by
        cases hh : hasN q (!k) (otherEnd k b') with
        | true => rfl
        | false => exact absurd ⟨ht, hh⟩ h
      obtain ⟨p', m⟩ := hasN_iff.mp h2
      exact ⟨p', m, I.mx _ m⟩

theorem invT_fold {L : List Bx} {root d : Nat} {e : Nd} : ∀ (M : List Bx) {q : List Nd} {done : List Bx}, (∀ b ∈ M, b ∈ L) → InvT L root d e q done → InvT L root d e (M.foldl (addN e) q) (done ++ M)
  | [], q, done, _, I => by simpa using I
  | b :: M, q, done, h, I => by
    have := invT_fold M (fun b' hb' => h b' (List.mem_cons_of_mem _ hb')) (invT_step I (h b (List.mem_cons_self ..)))
    simpa using this

/-- ahead of the turn at place d -/
structure InvD (L : List Bx) (root d : Nat) (q : List Nd) : Prop where
  i0 : Inv0 L root q
  le : d ≤ q.length
  mx : ∀ (e : Nd), q[d]? = some e → ∀ x ∈ q, x.2.2.length ≤ e.2.2.length + 1
  old : ∀ (j : Nat), j < d → ∀ (x : Nd), q[j]? = some x → ∀ b ∈ L, thisEnd x.1 b = x.2.1 → ∃ p, (!x.1, otherEnd x.1 b, p) ∈ q ∧ p.length ≤ x.2.2.length + 1

theorem invD_start (L : List Bx) (root : Nat) : InvD L root 0 [(true, root, [])] := by
  refine ⟨inv0_start L root, Nat.zero_le _, ?_, fun j hj => absurd hj (Nat.not_lt_zero _)⟩
  intro e he x hx
  rw [List.mem_singleton] at hx; subst hx
  exact Nat.zero_le _

theorem invD_turn {L : List Bx} {root d : Nat} {q : List Nd} {e : Nd} (I : InvD L root d q) (he : q[d]? = some e) : InvD L root (d + 1) (turnN L e q) := by
  have T0 : InvT L root d e q [] := ⟨I.i0, he, I.mx e he, I.old, fun b hb => nomatch hb⟩
  have T := invT_fold L (fun _ h => h) T0
  rw [List.nil_append] at T
  have hlt : d < (turnN L e q).length := (List.getElem?_eq_some_iff.mp T.at_).1
  refine ⟨T.i0, hlt, ?_, ?_⟩
  · intro e' he' x hx
    have h1 := T.mx x hx
    have h2 : e.2.2.length ≤ e'.2.2.length := by
      obtain ⟨a1, b1⟩ := List.getElem?_eq_some_iff.mp T.at_
      obtain ⟨a2, b2⟩ := List.getElem?_eq_some_iff.mp he'
      have := List.pairwise_iff_getElem.mp T.i0.srt d (d + 1) a1 a2 (by omega)
      rw [← b1, ← b2]
      exact this
    omega
  · intro j hj x hx b hb ht
    by_cases hjd : j < d
    · exact T.old j hjd x hx b hb ht
    · have : j = d := by omega
      subst this
      have hat := T.at_
      rw [show List.foldl (addN e) q L = turnN L e q from rfl] at hat
      rw [hat] at hx; cases hx
      exact T.dn b hb ht

/-- pigeonhole -/
theorem nodup_len : ∀ (n : Nat) {l : List Nat}, l.Nodup → (∀ x ∈ l, x < n) → l.length ≤ n
  | 0, l, _, h => by
    cases l with
    | nil => exact Nat.le_refl _
    | cons x r => exact absurd (h x (List.mem_cons_self ..)) (Nat.not_lt_zero _)
  | n + 1, l, hn, h => by
    have h1 : (l.erase n).Nodup := hn.erase n
    have h2 : ∀ x ∈ l.erase n, x < n := fun x hx => by
      have hx1 := List.mem_of_mem_erase hx
      have := h x hx1
      have hne : x ≠ n := fun e => by
        subst e
        exact (hn.not_mem_erase) hx
      omega
    have := nodup_len n h1 h2
    have hl := List.length_erase (a := n) (l := l)
    split at hl <;> omega

/-- all nodes lie within -/
def Bd (h w : Nat) (q : List Nd) : Prop := ∀ e ∈ q, if e.1 = true then e.2.1 < h else e.2.1 < w
theorem bd_len {L : List Bx} {root h w : Nat} {q : List Nd} (I : Inv0 L root q) (B : Bd h w q) : q.length ≤ h + w := by
  have hn : ((q.map fun e => (e.1, e.2.1)).map fun (x : Bool × Nat) => if x.1 = true then x.2 else h + x.2).Nodup := by
    have hnod := I.nod
    rw [List.nodup_iff_pairwise_ne] at hnod ⊢
    rw [List.pairwise_map]
    rw [List.pairwise_map] at hnod
    rw [List.pairwise_map]
    refine List.Pairwise.imp_of_mem ?_ hnod
    intro a b ha hb hab e
    have ba := B a ha
    have bb := B b hb
    obtain ⟨ka, ia, pa⟩ := a
    obtain ⟨kb, ib, pb⟩ := b
    apply hab
    simp only at e ba bb ⊢
    cases ka <;> cases kb <;> simp only [if_true, Bool.false_eq_true, if_false] at e ba bb ⊢
    · have : ia = ib := by omega
      rw [this]
    · omega
    · omega
    · rw [e]
  have := nodup_len (h + w) hn (by
    intro x hx
    rw [List.map_map] at hx
    obtain ⟨e, he, rfl⟩ := List.mem_map.mp hx
    have := B e he
    simp only [Function.comp]
    split <;> rename_i hk <;> simp only [hk] at this
    · simp at this; omega
    · simp at this; omega)
  simpa using this
theorem bd_step {h w : Nat} {e : Nd} {q : List Nd} {b : Bx} (B : Bd h w q) (hb : b.1 < h ∧ b.2 < w) : Bd h w (addN e q b) := by
  obtain ⟨k, i, p⟩ := e
  rw [addN_eq]
  split
  · intro x hx
    rcases List.mem_append.mp hx with hx | hx
    · exact B x hx
    · rw [List.mem_singleton] at hx; subst hx
      cases k <;> simp [otherEnd, hb.1, hb.2]
  · exact B
theorem bd_fold {h w : Nat} {e : Nd} : ∀ (M : List Bx) {q : List Nd}, (∀ b ∈ M, b.1 < h ∧ b.2 < w) → Bd h w q → Bd h w (M.foldl (addN e) q)
  | [], _, _, B => B
  | b :: M, q, h, B => bd_fold M (fun b' hb' => h b' (List.mem_cons_of_mem _ hb')) (bd_step B (h b (List.mem_cons_self ..)))

/-- the end of the spreading -/
structure SprFin (L : List Bx) (root : Nat) (q : List Nd) : Prop where
  i0 : Inv0 L root q
  all : ∀ x ∈ q, ∀ b ∈ L, thisEnd x.1 b = x.2.1 → ∃ p, (!x.1, otherEnd x.1 b, p) ∈ q ∧ p.length ≤ x.2.2.length + 1
theorem sprN_fin {L : List Bx} {root h w : Nat} (hL : ∀ b ∈ L, b.1 < h ∧ b.2 < w) : ∀ (n : Nat) {q : List Nd} {d : Nat}, InvD L root d q → Bd h w q → h + w ≤ n + d → SprFin L root (sprN L n q d) ∧ Bd h w (sprN L n q d)
  | 0, q, d, I, B, hn => by
    have hl := bd_len I.i0 B
    refine ⟨⟨I.i0, fun x hx b hb ht => ?_⟩, B⟩
    obtain ⟨j, hj⟩ := List.mem_iff_getElem?.mp hx
    have : j < q.length := (List.getElem?_eq_some_iff.mp hj).1
    exact I.old j (by omega) x hj b hb ht
  | n + 1, q, d, I, B, hn => by
    unfold sprN
    cases he : q[d]? with
    | none =>
      refine ⟨⟨I.i0, fun x hx b hb ht => ?_⟩, B⟩
      obtain ⟨j, hj⟩ := List.mem_iff_getElem?.mp hx
      have : j < q.length := (List.getElem?_eq_some_iff.mp hj).1
      have : q.length ≤ d := List.getElem?_eq_none_iff.mp he
      exact I.old j (by omega) x hj b hb ht
    | some e => exact sprN_fin hL n (invD_turn I he) (bd_fold L hL B) (by omega)
theorem spread_fin {L : List Bx} {root h w : Nat} (hL : ∀ b ∈ L, b.1 < h ∧ b.2 < w) (hr : root < h) : SprFin L root (spread L (h + w) root) ∧ Bd h w (spread L (h + w) root) :=
  sprN_fin hL (h + w) (invD_start L root) (fun e he => by rw [List.mem_singleton] at he; subst he; simpa using hr) (by omega)

theorem fin_walk {L : List Bx} {root : Nat} {q : List Nd} (F : SprFin L root q) {k : Bool} {i : Nat} {p : List Bx} (w : Wk L root k i p) : ∃ p', (k, i, p') ∈ q ∧ p'.length ≤ p.length := by
  induction w with
  | nil => exact ⟨[], getElem?_mem F.i0.hd, Nat.le_refl _⟩
  | @col r c p _ hb ih =>
    obtain ⟨p', m, l⟩ := ih
    obtain ⟨p2, m2, l2⟩ := F.all _ m (r, c) hb rfl
    refine ⟨p2, m2, ?_⟩
    simp only [List.length_append, List.length_singleton] at *
    omega
  | @row r c p _ hb ih =>
    obtain ⟨p', m, l⟩ := ih
    obtain ⟨p2, m2, l2⟩ := F.all _ m (r, c) hb rfl
    refine ⟨p2, m2, ?_⟩
    simp only [List.length_append, List.length_singleton] at *
    omega

/-! ### levels, turn by turn -/
abbrev Lv := List (Nat × Nat) × List (Nat × Nat)
def lkp (l : List (Nat × Nat)) (k : Nat) : Option Nat := (l.find? fun e => e.1 == k).map fun e => e.2
def lvC (t : Nat) (s : Lv) (b : Bx) : Lv := if lkp s.1 b.1 = some t ∧ lkp s.2 b.2 = none then (s.1, s.2 ++ [(b.2, t + 1)]) else s
def lvR (t : Nat) (s : Lv) (b : Bx) : Lv := if lkp s.2 b.2 = some t ∧ lkp s.1 b.1 = none then (s.1 ++ [(b.1, t + 1)], s.2) else s
def lvB (t : Nat) (s : Lv) (b : Bx) : Lv := lvR t (lvC t s b) b
def lvT (L : List Bx) (s : Lv) (t : Nat) : Lv := L.foldl (lvB t) s
def levels (L : List Bx) (N root : Nat) : Lv := (List.range N).foldl (lvT L) ([(root, 0)], [])

theorem lkp_snoc (l : List (Nat × Nat)) (k v j : Nat) : lkp (l ++ [(k, v)]) j = (lkp l j).or (if k = j then some v else none) := by
  unfold lkp
  rw [List.find?_append]
  cases h : l.find? fun e => e.1 == j with
  | some e => simp
  | none =>
    simp only [Option.none_or, Option.map_none]
    rw [List.find?_cons]
    by_cases hk : k = j
    · subst hk; simp
    · have : (k == j) = false := by simpa using hk
      simp [this, hk]
def lkS (s : Lv) (k : Bool) (i : Nat) : Option Nat := if k then lkp s.1 i else lkp s.2 i
theorem lvB_row (t : Nat) (s : Lv) (b : Bx) (k : Bool) (i : Nat) (v : Nat) (h : lkS s k i = some v) : lkS (lvB t s b) k i = some v := by
  have hC : ∀ s : Lv, lkS s k i = some v → lkS (lvC t s b) k i = some v := by
    intro s h
    unfold lvC
    split
    · cases k with
      | true => exact h
      | false =>
        show lkp (s.2 ++ [(b.2, t + 1)]) i = some v
        rw [lkp_snoc]
        have h : lkp s.2 i = some v := h
        rw [h]; rfl
    · exact h
  have hR : ∀ s : Lv, lkS s k i = some v → lkS (lvR t s b) k i = some v := by
    intro s h
    unfold lvR
    split
    · cases k with
      | false => exact h
      | true =>
        show lkp (s.1 ++ [(b.1, t + 1)]) i = some v
        rw [lkp_snoc]
        have h : lkp s.1 i = some v := h
        rw [h]; rfl
    · exact h
  exact hR _ (hC _ h)
/-- facts of the levels ahead of turn t -/
structure LvI (L : List Bx) (root t : Nat) (s : Lv) : Prop where
  le : ∀ k i v, lkS s k i = some v → v ≤ t
  wk : ∀ k i v, lkS s k i = some v → ∃ p, Wk L root k i p ∧ p.length = v
  sh : ∀ k i p, Wk L root k i p → p.length ≤ t → ∃ v, lkS s k i = some v ∧ v ≤ p.length
structure LvM (L : List Bx) (root t : Nat) (s : Lv) (done : List Bx) : Prop where
  le : ∀ k i v, lkS s k i = some v → v ≤ t + 1
  wk : ∀ k i v, lkS s k i = some v → ∃ p, Wk L root k i p ∧ p.length = v
  sh : ∀ k i p, Wk L root k i p → p.length ≤ t → ∃ v, lkS s k i = some v ∧ v ≤ p.length
  dn : ∀ b ∈ done, ∀ k, lkS s k (thisEnd k b) = some t → ∃ v, lkS s (!k) (otherEnd k b) = some v
theorem lvC_lk (t : Nat) (s : Lv) (b : Bx) (k : Bool) (i : Nat) : lkS (lvC t s b) k i = if k = false ∧ i = b.2 ∧ lkS s true b.1 = some t ∧ lkS s false b.2 = none then some (t + 1) else lkS s k i := by
  unfold lvC
  by_cases h : lkp s.1 b.1 = some t ∧ lkp s.2 b.2 = none
  · rw [if_pos h]
    cases k with
    | true => simp [lkS]
    | false =>
      simp only [lkS, Bool.false_eq_true, if_false, true_and, if_true]
      rw [lkp_snoc]
      by_cases hi : i = b.2
      · subst hi
        rw [h.2, if_pos rfl, if_pos ⟨rfl, h.1, rfl⟩]
        rfl
      · rw [if_neg (fun e => hi e.symm), if_neg (fun z => hi z.1)]
        cases lkp s.2 i <;> rfl
  · rw [if_neg h, if_neg]
    intro z
    exact h ⟨z.2.2.1, z.2.2.2⟩
theorem lvR_lk (t : Nat) (s : Lv) (b : Bx) (k : Bool) (i : Nat) : lkS (lvR t s b) k i = if k = true ∧ i = b.1 ∧ lkS s false b.2 = some t ∧ lkS s true b.1 = none then some (t + 1) else lkS s k i := by
  unfold lvR
  by_cases h : lkp s.2 b.2 = some t ∧ lkp s.1 b.1 = none
  · rw [if_pos h]
    cases k with
    | false => simp [lkS]
    | true =>
      simp only [lkS, Bool.false_eq_true, if_false, true_and, if_true]
      rw [lkp_snoc]
      by_cases hi : i = b.1
      · subst hi
        rw [h.2, if_pos rfl, if_pos ⟨rfl, h.1, rfl⟩]
        rfl
      · rw [if_neg (fun e => hi e.symm), if_neg (fun z => hi z.1)]
        cases lkp s.1 i <;> rfl
  · rw [if_neg h, if_neg]
    intro z
    exact h ⟨z.2.2.1, z.2.2.2⟩
/-- one box, one side -/
theorem lvM_half {L : List Bx} {root t : Nat} {s s' : Lv} {done : List Bx} {b : Bx} {k : Bool} (I : LvM L root t s done) (hb : b ∈ L)
    (h : ∀ k' i, lkS s' k' i = if k' = !k ∧ i = otherEnd k b ∧ lkS s k (thisEnd k b) = some t ∧ lkS s (!k) (otherEnd k b) = none then some (t + 1) else lkS s k' i) :
    LvM L root t s' done ∧ (lkS s' k (thisEnd k b) = some t → ∃ v, lkS s' (!k) (otherEnd k b) = some v) ∧ (∀ k' i v, lkS s k' i = some v → lkS s' k' i = some v) ∧ ∀ k' i, lkS s' k' i = some t → lkS s k' i = some t := by
  have keep : ∀ k' i v, lkS s k' i = some v → lkS s' k' i = some v := by
    intro k' i v e
    rw [h]
    split
    · rename_i z
      obtain ⟨rfl, rfl, _, z⟩ := z
      rw [z] at e; cases e
    · exact e
  have back : ∀ k' i, lkS s' k' i = some t → lkS s k' i = some t := by
    intro k' i e
    rw [h] at e
    split at e
    · injection e with e; omega
    · exact e
  refine ⟨⟨?_, ?_, ?_, ?_⟩, ?_, keep, back⟩
  · intro k' i v e
    rw [h] at e
    split at e
    · cases e; exact Nat.le_refl _
    · exact I.le _ _ _ e
  · intro k' i v e
    rw [h] at e
    split at e
    · rename_i z
      obtain ⟨rfl, rfl, z1, _⟩ := z
      cases e
      obtain ⟨p, w, hl⟩ := I.wk _ _ _ z1
      refine ⟨p ++ [b], ?_, by simp [hl]⟩
      obtain ⟨r, c⟩ := b
      cases k with
      | true => exact .col w hb
      | false => exact .row w hb
    · exact I.wk _ _ _ e
  · intro k' i p w hp
    obtain ⟨v, e, l⟩ := I.sh _ _ _ w hp
    exact ⟨v, keep _ _ _ e, l⟩
  · intro b' hb' k' e
    obtain ⟨v, e'⟩ := I.dn b' hb' k' (back _ _ e)
    exact ⟨v, keep _ _ _ e'⟩
  · intro e
    have e := back _ _ e
    cases hn : lkS s (!k) (otherEnd k b) with
    | some v => exact ⟨v, keep _ _ _ hn⟩
    | none => exact ⟨t + 1, by rw [h, if_pos ⟨rfl, rfl, e, hn⟩]⟩
theorem lvM_step {L : List Bx} {root t : Nat} {s : Lv} {done : List Bx} {b : Bx} (I : LvM L root t s done) (hb : b ∈ L) : LvM L root t (lvB t s b) (done ++ [b]) := by
  obtain ⟨I1, d1, k1, b1⟩ := lvM_half (k := true) I hb fun k' i => lvC_lk t s b k' i
  obtain ⟨I2, d2, k2, b2⟩ := lvM_half (k := false) I1 hb fun k' i => lvR_lk t (lvC t s b) b k' i
  refine ⟨I2.le, I2.wk, I2.sh, ?_⟩
  intro b' hb' k e
  rcases List.mem_append.mp hb' with hb' | hb'
  · exact I2.dn b' hb' k e
  · rw [List.mem_singleton] at hb'; subst hb'
    cases k with
    | false => exact d2 e
    | true =>
      obtain ⟨v, hv⟩ := d1 (b2 _ _ e)
      exact ⟨v, k2 _ _ _ hv⟩
theorem lvM_fold {L : List Bx} {root t : Nat} : ∀ (M : List Bx) {s : Lv} {done : List Bx}, (∀ b ∈ M, b ∈ L) → LvM L root t s done → LvM L root t (M.foldl (lvB t) s) (done ++ M)
  | [], s, done, _, I => by simpa using I
  | b :: M, s, done, h, I => by
    have := lvM_fold M (fun b' hb' => h b' (List.mem_cons_of_mem _ hb')) (lvM_step I (h b (List.mem_cons_self ..)))
    simpa using this
theorem lvI_turn {L : List Bx} {root t : Nat} {s : Lv} (I : LvI L root t s) : LvI L root (t + 1) (lvT L s t) := by
  have M0 : LvM L root t s [] := ⟨fun k i v e => Nat.le_succ_of_le (I.le k i v e), I.wk, I.sh, fun b hb => nomatch hb⟩
  have M := lvM_fold L (fun _ h => h) M0
  rw [List.nil_append] at M
  refine ⟨M.le, M.wk, ?_⟩
  intro k i p w hp
  by_cases hp' : p.length ≤ t
  · exact M.sh _ _ _ w hp'
  · have step : ∀ (k : Bool) (b : Bx) (p : List Bx), Wk L root k (thisEnd k b) p → b ∈ L → p.length = t → ∃ v, lkS (lvT L s t) (!k) (otherEnd k b) = some v ∧ v ≤ t + 1 := by
      intro k b p w hb hl
      obtain ⟨v, e, l⟩ := M.sh _ _ _ w (by omega)
      by_cases hv : v = t
      · subst hv
        obtain ⟨v', e'⟩ := M.dn b hb k e
        exact ⟨v', e', M.le _ _ _ e'⟩
      · obtain ⟨p2, w2, l2⟩ := M.wk _ _ _ e
        have w3 : Wk L root (!k) (otherEnd k b) (p2 ++ [b]) := by
          obtain ⟨r, c⟩ := b
          cases k with
          | true => exact .col w2 hb
          | false => exact .row w2 hb
        obtain ⟨v', e', l'⟩ := M.sh _ _ _ w3 (by simp; omega)
        refine ⟨v', e', ?_⟩
        simp at l'; omega
    cases w with
    | nil => exact absurd (Nat.zero_le _) hp'
    | @col r c p1 w1 hb =>
      simp only [List.length_append, List.length_singleton] at hp hp' ⊢
      obtain ⟨v, e, l⟩ := step true (_, _) p1 w1 hb (by omega)
      exact ⟨v, e, by omega⟩
    | @row r c p1 w1 hb =>
      simp only [List.length_append, List.length_singleton] at hp hp' ⊢
      obtain ⟨v, e, l⟩ := step false (_, _) p1 w1 hb (by omega)
      exact ⟨v, e, by omega⟩
theorem lvI_start (L : List Bx) (root : Nat) : LvI L root 0 ([(root, 0)], []) := by
  refine ⟨?_, ?_, ?_⟩
  · intro k i v e
    cases k with
    | false => simp [lkS, lkp] at e
    | true =>
      simp only [lkS, if_true, lkp] at e
      rw [List.find?_cons] at e
      split at e
      · simp at e; omega
      · simp at e
  · intro k i v e
    cases k with
    | false => simp [lkS, lkp] at e
    | true =>
      simp only [lkS, if_true, lkp] at e
      rw [List.find?_cons] at e
      split at e
      · rename_i h
        simp at e h
        subst e; subst h
        exact ⟨[], .nil, rfl⟩
      · simp at e
  · intro k i p w hp
    have hp' : p = [] := List.length_eq_zero_iff.mp (by omega)
    obtain ⟨rfl, rfl⟩ := wk_nil w hp'
    exact ⟨0, by simp [lkS, lkp], Nat.zero_le _⟩
theorem levels_I (L : List Bx) (root : Nat) : ∀ N, LvI L root N (levels L N root)
  | 0 => lvI_start L root
  | N + 1 => by
    unfold levels
    rw [List.range_succ, List.foldl_append]
    exact lvI_turn (levels_I L root N)

/-! ### the way found -/
/-- a way from a row to a column, of these boxes -/
structure IsWay (L : List Bx) (r c : Nat) (p : List Bx) : Prop where
  mem : ∀ b ∈ p, b ∈ L
  odd : p.length % 2 = 1
  first : ∀ b, p[0]? = some b → b.1 = r
  last : ∀ b, p[p.length - 1]? = some b → b.2 = c
  ne : ∀ (i : Nat) b b', p[i]? = some b → p[i + 1]? = some b' → b ≠ b'
  alt : ∀ (i : Nat) b b', p[i]? = some b → p[i + 1]? = some b' → if i % 2 = 0 then b.2 = b'.2 else b.1 = b'.1
theorem wk_mem {L : List Bx} {root : Nat} {k : Bool} {i : Nat} {p : List Bx} (w : Wk L root k i p) : ∀ b ∈ p, b ∈ L := by
  induction w with
  | nil => intro b h; cases h
  | col _ hb ih =>
    intro b h
    rcases List.mem_append.mp h with h | h
    · exact ih b h
    · rw [List.mem_singleton] at h; subst h; exact hb
  | row _ hb ih =>
    intro b h
    rcases List.mem_append.mp h with h | h
    · exact ih b h
    · rw [List.mem_singleton] at h; subst h; exact hb
theorem wk_par {L : List Bx} {root : Nat} {k : Bool} {i : Nat} {p : List Bx} (w : Wk L root k i p) : p.length % 2 = if k = true then 0 else 1 := by
  induction w with
  | nil => rfl
  | col _ hb ih => simp at *; omega
  | row _ hb ih => simp at *; omega
theorem wk_last {L : List Bx} {root : Nat} {k : Bool} {i : Nat} {p : List Bx} (w : Wk L root k i p) : ∀ b, p[p.length - 1]? = some b → thisEnd k b = i := by
  intro b h
  cases w with
  | nil => simp at h
  | col _ hb => simp at h; subst h; rfl
  | row _ hb => simp at h; subst h; rfl
theorem wk_first {L : List Bx} {root : Nat} {k : Bool} {i : Nat} {p : List Bx} (w : Wk L root k i p) : ∀ b, p[0]? = some b → b.1 = root := by
  induction w with
  | nil => intro b h; simp at h
  | @col r c p w1 hb ih =>
    intro b h
    cases p with
    | nil =>
      simp at h; subst h
      exact (wk_nil w1 rfl).2
    | cons x xs => exact ih b (by simpa using h)
  | @row r c p w1 hb ih =>
    intro b h
    cases p with
    | nil => exact absurd (wk_nil w1 rfl).1 (by decide)
    | cons x xs => exact ih b (by simpa using h)
theorem wk_alt {L : List Bx} {root : Nat} {k : Bool} {i : Nat} {p : List Bx} (w : Wk L root k i p) : ∀ (j : Nat) b b', p[j]? = some b → p[j + 1]? = some b' → if j % 2 = 0 then b.2 = b'.2 else b.1 = b'.1 := by
  induction w with
  | nil => intro j b b' h; simp at h
  | @col r c p w1 hb ih =>
    intro j b b' h h'
    have hj : j + 1 < (p ++ [(r, c)]).length := (List.getElem?_eq_some_iff.mp h').1
    simp at hj
    by_cases e : j + 1 < p.length
    · rw [List.getElem?_append_left (by omega)] at h
      rw [List.getElem?_append_left e] at h'
      exact ih j b b' h h'
    · have e1 : j + 1 = p.length := by omega
      rw [List.getElem?_append_left (by omega)] at h
      rw [e1, List.getElem?_append_right (Nat.le_refl _)] at h'
      simp at h'; subst h'
      have h2 := wk_last w1 b (by rw [← e1]; exact h)
      have h3 := wk_par w1
      simp only [thisEnd, if_true] at h2 h3
      rw [if_neg (by omega)]
      exact h2
  | @row r c p w1 hb ih =>
    intro j b b' h h'
    have hj : j + 1 < (p ++ [(r, c)]).length := (List.getElem?_eq_some_iff.mp h').1
    simp at hj
    by_cases e : j + 1 < p.length
    · rw [List.getElem?_append_left (by omega)] at h
      rw [List.getElem?_append_left e] at h'
      exact ih j b b' h h'
    · have e1 : j + 1 = p.length := by omega
      rw [List.getElem?_append_left (by omega)] at h
      rw [e1, List.getElem?_append_right (Nat.le_refl _)] at h'
      simp at h'; subst h'
      have h2 := wk_last w1 b (by rw [← e1]; exact h)
      have h3 := wk_par w1
      simp only [thisEnd, Bool.false_eq_true, if_false] at h2 h3
      rw [if_pos (by omega)]
      exact h2
theorem ne_all {L : List Bx} {root : Nat} {q : List Nd} (I : Inv0 L root q) : ∀ (n : Nat) {k : Bool} {i : Nat} {p : List Bx}, p.length = n → (k, i, p) ∈ q → ∀ (j : Nat) b b', p[j]? = some b → p[j + 1]? = some b' → b ≠ b'
  | 0, k, i, p, hl, _, j, b, b', h, _ => by
    have := List.length_eq_zero_iff.mp hl
    subst this
    simp at h
  | n + 1, k, i, p, hl, hm, j, b, b', h, h' => by
    have hp : p ≠ [] := by intro e; subst e; simp at hl
    obtain ⟨p', x, rfl⟩ : ∃ p' x, p = p' ++ [x] := ⟨p.dropLast, p.getLast hp, (List.dropLast_concat_getLast hp).symm⟩
    simp at hl
    obtain ⟨m1, _⟩ := I.pre _ _ _ _ hm
    have hj : j + 1 < (p' ++ [x]).length := (List.getElem?_eq_some_iff.mp h').1
    simp at hj
    by_cases e : j + 1 < p'.length
    · rw [List.getElem?_append_left (by omega)] at h
      rw [List.getElem?_append_left e] at h'
      exact ne_all I n hl m1 j b b' h h'
    · have e1 : j + 1 = p'.length := by omega
      rw [List.getElem?_append_left (by omega)] at h
      rw [e1, List.getElem?_append_right (Nat.le_refl _)] at h'
      simp at h'; subst h'
      have hp' : p' ≠ [] := by intro e; subst e; simp at e1
      obtain ⟨p2, y, rfl⟩ : ∃ p2 y, p' = p2 ++ [y] := ⟨p'.dropLast, p'.getLast hp', (List.dropLast_concat_getLast hp').symm⟩
      have : j = p2.length := by simp at e1; omega
      subst this
      rw [List.getElem?_append_right (Nat.le_refl _)] at h
      simp at h; subst h
      exact I.ne k i p2 y x (by simpa using hm)

/-- what is found: the way, its length, both or none -/
theorem way_none {L : List Bx} {root h w c : Nat} (hL : ∀ b ∈ L, b.1 < h ∧ b.2 < w) (hr : root < h) (e : wayN L (h + w) root c = none) : lkp (levels L (h + w) root).2 c = none := by
  obtain ⟨F, B⟩ := spread_fin hL hr
  cases hv : lkp (levels L (h + w) root).2 c with
  | none => rfl
  | some v =>
    obtain ⟨p, wp, _⟩ := (levels_I L root (h + w)).wk false c v hv
    obtain ⟨p', m, _⟩ := fin_walk F wp
    unfold wayN at e
    rw [Option.map_eq_none_iff, List.find?_eq_none] at e
    exact absurd (by simp) (e _ m)
theorem way_some {L : List Bx} {root h w c : Nat} {p : List Bx} (hL : ∀ b ∈ L, b.1 < h ∧ b.2 < w) (hr : root < h) (e : wayN L (h + w) root c = some p) :
    lkp (levels L (h + w) root).2 c = some p.length ∧ IsWay L root c p ∧ p.length ≤ h + w ∧ (false, c, p) ∈ spread L (h + w) root := by
  obtain ⟨F, B⟩ := spread_fin hL hr
  unfold wayN at e
  rw [Option.map_eq_some_iff] at e
  obtain ⟨⟨k, i, p'⟩, hf, rfl⟩ := e
  have hm := List.mem_of_find?_eq_some hf
  have hs := List.find?_some hf
  simp at hs
  obtain ⟨rfl, rfl⟩ := hs
  have hw := F.i0.wk _ hm
  have hlen : p'.length ≤ h + w := by
    obtain ⟨j, hj⟩ := List.mem_iff_getElem?.mp hm
    have h1 := F.i0.lenix j _ hj
    have h2 : j < (spread L (h + w) root).length := (List.getElem?_eq_some_iff.mp hj).1
    have h3 := bd_len F.i0 B
    simp only at h1
    omega
  have LI := levels_I L root (h + w)
  obtain ⟨v, ev, lv⟩ := LI.sh _ _ _ hw hlen
  obtain ⟨p2, w2, l2⟩ := LI.wk _ _ _ ev
  obtain ⟨p3, m3, l3⟩ := fin_walk F w2
  have := F.i0.uq _ _ _ _ hm m3
  subst this
  refine ⟨?_, ⟨wk_mem hw, wk_par hw, wk_first hw, wk_last hw, ne_all F.i0 _ rfl hm, wk_alt hw⟩, hlen, hm⟩
  have : v = p'.length := by simp only at lv; omega
  rw [← this]
  exact ev
end K15
end
section
set_option maxRecDepth 100000
set_option maxHeartbeats 4000000
namespace K15
open PySem PySem.Spec PyProof.Rows L2

/-! ### texts -/
section
variable {X : Cx}
theorem mt_swapcase : MtR X "str.swapcase" (fun x xs H Q => ∃ a, x = .str a ∧ xs = [] ∧ a.length ≤ 5592405 ∧ Q (.str (Txt.swapcase a)) H) :=
  mt0 (C := fun a => a.length ≤ 5592405) (g := fun a => .str (Txt.swapcase a)) fun a _ s _ hc h =>
    PySem.SC.swapcase (PyProof.Rows.short24 (by have h1 : a.length ≤ 5592405 := hc; have := PyProof.Rows.len_swapcase a; omega)) (h _ (s.toks + 1) ⟨_, rfl⟩)

/-- a text from behind -/
def revS (z : Str) : Str := ⟨z.cps.toList.reverse.toArray⟩
theorem revS_len (z : Str) : (revS z).length = z.length := by simp [revS, Str.length]
theorem idx_rev (n : Nat) : Builtin.Str.strSliceIndices none none (-1) n = (List.range n).reverse := by
  unfold Builtin.Str.strSliceIndices
  show sliceRange ((n : Int) - 1) (-1) (-1) = _
  rw [PySem.W.krv_sliceRange, PySem.W.krv_range]
theorem pick_rev (z : Str) : (Builtin.Str.strSliceIndices none none (-1) z.length).filterMap (z.cps[·]?) = z.cps.toList.reverse := by
  rw [idx_rev, List.filterMap_reverse]
  congr 1
  exact PySem.W.krv_all z.cps

def tRevS (te : TE) : TE := fun σ H Q => te σ H fun x H1 => ∃ z, x = .str z ∧ z.length ≤ sizeLine ∧ Q (.str (revS z)) H1
theorem pe_revS {e : Expr} {te : TE} {k : Nat} {p1 p2 p3 pos : Pos} (he : PE X e te) : PE X (.Subscript e (.Slice none none (some (.UnaryOp .USub (.Constant (.int 1) k p1) p2)) p3) pos) (tRevS te) := by
  refine ⟨fun pins s σ H Q I h => ?_⟩
  refine Subscript_ (thn (he.run pins s σ H _ I h) fun v s1 ⟨x, H1, I1, r1, q1⟩ => ?_)
  obtain ⟨z, ex, hz, q⟩ := q1
  subst ex
  obtain ⟨tz, rfl⟩ := r1
  have hst : PO X (some (.UnaryOp .USub (.Constant (.int 1) k p1) p2)) (tPart (tUn (rU fun i => .int (-i)) (tC (.int 1)))) := po_some (pe_un un_neg pe_int)
  refine wpAny_Slice (thn (po_none.run pins s1 σ H1 (fun o H2 => o = none ∧ H2 = H1) I1 ⟨rfl, rfl⟩) fun vl s2 ⟨l, H2, I2, pl, el, e2⟩ => ?_)
  subst el e2
  refine thn (po_none.run pins s2 σ H2 (fun o H3 => o = none ∧ H3 = H2) I2 ⟨rfl, rfl⟩) fun vu s3 ⟨u, H3, I3, pu, eu, e3⟩ => ?_
  subst eu e3
  refine thn (hst.run pins s3 σ H3 (fun o H4 => o = some (-1) ∧ H4 = H3) I3 ⟨1, rfl, -1, rfl, rfl, rfl⟩) fun vs s4 ⟨o, H4, I4, ps, eo, e4⟩ => ?_
  subst eo e4
  have I5 : Inv X pins σ H4 { s4 with heap := s4.heap.push { cls := .type "slice", data := .fields #[vl, vu, vs] } } := I4.kept (t' := s4.toks) fun b ob q => Heap.get?_push_of_some _ q
  obtain ⟨l, rfl, hl⟩ := IsPart.raw pl
  obtain ⟨u, rfl, hu⟩ := IsPart.raw pu
  obtain ⟨st, rfl, hst⟩ := IsPart.raw ps
  have el : l = none := by cases l with | none => rfl | some _ => simp at hl
  have eu : u = none := by cases u with | none => rfl | some _ => simp at hu
  subst el eu
  obtain ⟨⟨i, ti⟩, rfl⟩ : ∃ a, st = some a := by
    cases st with
    | none => simp at hst
    | some a => exact ⟨a, rfl⟩
  have ei : i = -1 := by simpa using hst
  subst ei
  show wpAny (model X.prog X.w) X.A (subscriptTail e (.Slice none none (some (.UnaryOp .USub (.Constant (.int 1) k p1) p2)) p3) (.str z tz) (.ref s4.heap.objs.size)) (EP X pins σ Q) X.xe { s4 with heap := s4.heap.push { cls := .type "slice", data := .fields #[partValue none, partValue none, partValue (some (-1, ti))] } }
  refine tail_any (ops := [.ref s4.heap.objs.size, .str z tz]) (typeIs_str _ _ _) F.slot_str_getitem.lookup ?_ (by with_unfolding_all rfl)
  refine wpAny_getItem_str_slice (l := none) (u := none) (st := some (-1, ti)) ⟨_, Heap.get?_push_size _ rfl, rfl, rfl⟩ rfl ?_
  unfold sliceMade
  rw [if_neg (by intro z; exact absurd z Bool.false_ne_true)]
  have e1 : (slicePicked z none none (some (-1, ti))).filterMap (z.cps[·]?) = z.cps.toList.reverse := pick_rev z
  rw [e1]
  refine ⟨?_, .str (revS z), H4, I5.tok _, ⟨_, rfl⟩, q⟩
  have := revS_len z
  show (revS z).length ≤ sizeLine
  omega

/-! ### enumerate(tuple) -/
def IteT (K : PySem.W.Frag) (a : Addr) : It :=
  ⟨fun i H => ∃ (xs : List V) (x : V), SqT K H a xs ∧ xs[i]? = some x, fun i H v H' => ∃ T x, v = .ref T ∧ H T = none ∧ H' = upd H T (.tup [.int (i : Nat), x]) ∧ ∀ xs, SqT K H a xs → xs[i]? = some x, fun i H => ∃ xs : List V, SqT K H a xs ∧ xs.length ≤ i⟩
end
end K15
end
section
set_option maxRecDepth 100000
set_option maxHeartbeats 4000000
namespace K15
open PySem PySem.Spec PyProof.Rows L2

/-! ### enumerate(v) begins -/
theorem meets_enum1 (v : Value) (I : Addr) (h1 : Heap) :
    Meets (Builtin.«enumerate.__new__» ⟨[.type "enumerate", v], []⟩) (fun _ R s => (∀ (prog : Program) (w : World) (A : Around) (E : Value → Shared → Prop) (Q : Value → Shared → Prop), Q (.ref I) { s with heap := h1 } → wpAny (model prog w) A (pyIter v) Q E s) ∧
      R (.ok (.ret (.ref h1.objs.size))) { s with heap := h1.push { cls := .type "enumerate", data := .fields #[.none, .bool false, .ref I, rawInt 0, .none, .none] } }) :=
  .of_wp fun prog w A R s h => by
    obtain ⟨hp, g, d, tk, os⟩ := s; obtain ⟨hi, h⟩ := h
    have hsub := sub_enumerate
    have q1 : ∀ {A' : Around} {E : Value → Shared → Prop} {Q : Value → Shared → Prop}, Q (.ref I) ⟨h1, g, d, tk, os⟩ → wpAny (model prog w) A' (pyIter v) Q E ⟨hp, g, d, tk, os⟩ := fun q => hi prog w _ _ _ q
    wp_walk using q1
    refine wpAny_stack_any fun st => wpAny_pure ?_
    split
    · rename_i c _ _ _ _ _
      cases (c == Value.type "enumerate")
      · wp_walk using q1
        exact ⟨_, rfl, h⟩
      · wp_walk using q1
        exact ⟨_, rfl, h⟩
    · wp_walk using q1
      exact ⟨_, rfl, h⟩
section
variable {prog : Program} {w : World} {A : Around} {E : Value → Shared → Prop} {s : Shared}
theorem enum1_begins {v : Value} {I : Addr} {h1 : Heap} {Q : Value → Shared → Prop} (hi : ∀ (prog : Program) (w : World) (A : Around) (E : Value → Shared → Prop) (Q : Value → Shared → Prop), Q (.ref I) { s with heap := h1 } → wpAny (model prog w) A (pyIter v) Q E s)
    (h : ∀ h', IsEnum h' h1.objs.size I 0 .none → (∀ b o, h1.get? b = some o → h'.get? b = some o) → h'.objs.size = h1.objs.size + 1 → Q (.ref h1.objs.size) { s with heap := h' }) :
    wpAny (model prog w) A (call (.type "enumerate") [v]) Q E s := by
  refine callType_new F.called_enumerate (by decide) (F.typeCall_enumerate_1 _) (F.newCall_enumerate_1 _) (fun obj => F.args_object_init_2 obj _) F.entry_enumerate_new
    (meets_enum1 v I h1) ⟨hi, ?_⟩
  show _ ∧ _
  have he : IsEnum (h1.push { cls := .type "enumerate", data := .fields #[.none, .bool false, .ref I, rawInt 0, .none, .none] }) h1.objs.size I 0 .none := Heap.get?_push_size _ rfl
  exact ⟨⟨_, he, rfl⟩, h _ he (fun b o x => Heap.get?_push_of_some _ x) (Heap.size_push ..)⟩

/-! ### a zip over two tuples whose given-out tuple may still be held -/
abbrev ZipE (h : Heap) (z TI TO : Addr) (f0 f1 : Value) : Prop :=
  h.get? z = some { cls := .type "zip", dict := none, data := .fields #[f0, f1, .bool false, .ref TI, .ref TO], slots := #[] }
def OutOk (f0 : Value) : Prop := f0 = .none ∨ ∃ T : Nat, f0 = rawInt (T : Int)
theorem zipE_free {z TI TO : Addr} {f0 f1 : Value} {Q : Bool → Shared → Prop} (hz : ZipE s.heap z TI TO f0 f1) (hf : OutOk f0) (h1 : Q true s)
    (h : ∀ h', ZipE h' z TI TO f0 (.bool true) → Heap.SameBut z s.heap h' → Q false { s with heap := h' }) : wpAny (model prog w) A (Builtin.SmallTypes.ownedTupleIsFree (.ref z)) Q E s := by
  unfold Builtin.SmallTypes.ownedTupleIsFree
  refine wpAny_bind (wpAny_field hz rfl (x := f0) rfl ?_)
  rcases hf with rfl | ⟨T, rfl⟩
  · exact wpAny_pure h1
  · show wpAny _ _ (loadIfAlive ((T : Int).toNat) >>= _) _ _ _
    rw [Int.toNat_natCast]
    refine wpAny_bind ?_
    have al : ∀ {Q : Option Obj → Shared → Prop}, Q (s.heap.get? T) s → wpAny (model prog w) A (loadIfAlive T) Q E s := fun q => fun _ _ _ => q
    refine al ?_
    cases hT : s.heap.get? T with
    | none =>
      simp only [Option.isNone_none, if_true]
      exact wpAny_pure h1
    | some o =>
      simp only [Option.isNone_some, Bool.false_eq_true, if_false]
      refine wpAny_bind (wpAny_field hz rfl (x := f1) rfl ?_)
      by_cases hc : f1 = .bool true
      · subst hc
        rw [if_neg (show ¬ ((Value.bool true != Value.bool true) = true) from Bool.false_ne_true)]
        exact wpAny_pure (h s.heap hz (Heap.SameBut.refl _ _))
      · by_cases hb : (f1 != Value.bool true) = true
        · rw [if_pos hb]
          exact wpAny_bind (wpAny_setField_rec hz (by simp) fun h₁ hz₁ hs₁ => wpAny_pure (h h₁ hz₁ hs₁))
        · rw [if_neg hb]
          refine wpAny_pure ?_
          have : f1 = .bool true := by
            cases hv : f1 with
            | bool b => cases b with
              | true => rfl
              | false => rw [hv] at hb; exact absurd rfl hb
            | _ => rw [hv] at hb; exact absurd rfl hb
          exact absurd this hc
end
end K15
end
section
set_option maxRecDepth 100000
set_option maxHeartbeats 4000000
namespace K15
open PySem PySem.Spec PyProof.Rows L2
section
variable {prog : Program} {w : World} {A : Around} {E : Value → Shared → Prop} {s : Shared}
theorem zipE_item {z TI TO i1 i2 l1 l2 : Addr} {k1 k2 : Nat} {xs ys : Array Value} {x y a b f0 f1 : Value} {Q : Value → Shared → Prop} (D : ZipApart z TI TO i1 i2 l1 l2)
    (hz : ZipE s.heap z TI TO f0 f1) (hf : OutOk f0) (hTI : IsPair s.heap TI (.ref i1) (.ref i2)) (hTO : IsPair s.heap TO a b)
    (h1 : s.heap.IsTupleIter i1 l1 k1) (h2 : s.heap.IsTupleIter i2 l2 k2) (hl1 : s.heap.IsTuple l1 xs) (hl2 : s.heap.IsTuple l2 ys) (hx : xs[k1]? = some x) (hy : ys[k2]? = some y)
    (hQ : ∀ h' f0' f1' a' b', OutOk f0' → ZipE h' z TI TO f0' f1' → IsPair h' TO a' b' → h'.IsTupleIter i1 l1 (k1 + 1) → h'.IsTupleIter i2 l2 (k2 + 1) → IsPair h' s.heap.objs.size x y → h'.objs.size = s.heap.objs.size + 1 →
      (∀ c o, c ≠ z → c ≠ TO → c ≠ i1 → c ≠ i2 → s.heap.get? c = some o → h'.get? c = some o) → Q (.ref s.heap.objs.size) { s with heap := h' }) :
    wpAny (model prog w) A (Builtin.«zip.__next__» ⟨[.ref z], []⟩) (fun fin s' => ∃ v, fin = .done (.ret v) ∧ Q v s') E s := by
  show wpAny _ _ (field (.ref z) 2 >>= _) _ _ _
  refine wpAny_bind (wpAny_field hz rfl (x := .bool false) rfl ?_)
  show wpAny _ _ (field (.ref z) 3 >>= _) _ _ _
  refine wpAny_bind (wpAny_field hz rfl (x := .ref TI) rfl ?_)
  refine wpAny_bind (wpAny_seqItems hTI rfl ?_)
  show wpAny _ _ (Builtin.SmallTypes.ownedTupleIsFree (.ref z) >>= _) _ _ _
  refine wpAny_bind (zipE_free hz hf ?_ fun h₁ hz₁ hs₁ => ?_)
  rotate_left
  · simp only [Bool.false_eq_true, if_false]
    refine wpAny_bind ?_
    rw [← Array.forIn_toList]
    simp only [List.forIn_cons, List.forIn_nil]
    refine wpAny_bind (wpAny_bind (wpAny_holding ?_))
    show wpAny _ _ (Builtin.SmallTypes.nextOf (.ref i1) >>= _) _ _ _
    refine wpAny_bind (wpAny_nextOf_tuple_item (s := { s with heap := h₁ }) (h1.extBut hs₁.extBut D.i1z) (hl1.extBut hs₁.extBut D.l1z) hx fun h₂ h1₂ hs₂ => wpAny_pure ?_)
    refine wpAny_pure ?_
    refine wpAny_bind (wpAny_bind (wpAny_holding ?_))
    show wpAny _ _ (Builtin.SmallTypes.nextOf (.ref i2) >>= _) _ _ _
    refine wpAny_bind (wpAny_nextOf_tuple_item (s := { s with heap := h₂ }) ((h2.extBut hs₁.extBut D.i2z).extBut hs₂.extBut D.i12.symm) ((hl2.extBut hs₁.extBut D.l2z).extBut hs₂.extBut D.l2i1) hy fun h₃ h2₃ hs₃ => wpAny_pure ?_)
    refine wpAny_pure (wpAny_pure ?_)
    show wpAny _ _ (newTuple [x, y] >>= _) _ _ _
    refine wpAny_bind (wpAny_newTuple ?_)
    have hsz : h₃.objs.size = s.heap.objs.size := by rw [hs₃.1, hs₂.1, hs₁.1]
    have hz₃ : ZipE h₃ z TI TO f0 (.bool true) := hs₃.extBut _ _ D.i2z.symm (hs₂.extBut _ _ D.i1z.symm hz₁)
    have hk : ∀ c o, c ≠ z → c ≠ i1 → c ≠ i2 → s.heap.get? c = some o → h₃.get? c = some o := fun c o c1 c2 c3 e => hs₃.extBut _ _ c3 (hs₂.extBut _ _ c2 (hs₁.extBut _ _ c1 e))
    have h1₃ : h₃.IsTupleIter i1 l1 (k1 + 1) := h1₂.extBut hs₃.extBut D.i12
    have hTO₃ : IsPair h₃ TO a b := hk _ _ D.TOz D.TOi1 D.TOi2 hTO
    refine wpAny_pure ⟨_, rfl, ?_⟩
    show Q (.ref h₃.objs.size) _
    have hp : IsPair (h₃.push { cls := .type "tuple", data := .seq #[x, y] }) h₃.objs.size x y := Heap.get?_push_size _ rfl
    have hz4 : (h₃.push { cls := .type "tuple", data := .seq #[x, y] }).objs.size = h₃.objs.size + 1 := Heap.size_push ..
    rw [hsz] at hp hz4 ⊢
    exact hQ _ f0 _ a b hf (Heap.get?_push_of_some _ hz₃) (Heap.get?_push_of_some _ hTO₃) (h1₃.at fun o e => Heap.get?_push_of_some _ e) (h2₃.at fun o e => Heap.get?_push_of_some _ e) hp hz4
      fun c o c1 c2 c3 c4 e => Heap.get?_push_of_some _ (hk c o c1 c3 c4 e)
  simp only [if_true]
  refine wpAny_bind (wpAny_rule ?_)
  refine wpAny_bind (wpAny_field hz rfl (x := .ref TO) rfl ?_)
  refine wpAny_bind (wpAny_setField_rec hz (by simp) fun h₁ hz₁ hs₁ => ?_)
  replace hz₁ : ZipE h₁ z TI TO .ellipsis f1 := hz₁
  refine wpAny_bind ?_
  simp only [List.zipIdx_cons, List.zipIdx_nil, List.forIn_cons, List.forIn_nil]
  refine wpAny_bind (wpAny_bind (wpAny_onRaise ?_))
  show wpAny _ _ (Builtin.SmallTypes.nextOf (.ref i1) >>= _) _ _ _
  refine wpAny_bind (wpAny_nextOf_tuple_item (h1.extBut hs₁.extBut D.i1z) (hl1.extBut hs₁.extBut D.l1z) hx fun h₂ h1₂ hs₂ => wpAny_pure ?_)
  have hTO₂ : IsPair h₂ TO a b := hs₂.extBut _ _ D.TOi1 (hs₁.extBut _ _ D.TOz hTO)
  refine wpAny_bind (wpAny_seqItems hTO₂ rfl ?_)
  refine wpAny_bind (wpAny_updateSeq_pair hTO₂ fun h₃ hTO₃ hs₃ => ?_)
  replace hTO₃ : IsPair h₃ TO x b := hTO₃
  refine wpAny_bind (wpAny_letGo (wpAny_pure ?_))
  refine wpAny_bind (wpAny_bind (wpAny_onRaise ?_))
  show wpAny _ _ (Builtin.SmallTypes.nextOf (.ref i2) >>= _) _ _ _
  refine wpAny_bind (wpAny_nextOf_tuple_item (((h2.extBut hs₁.extBut D.i2z).extBut hs₂.extBut D.i12.symm).extBut hs₃.extBut D.TOi2.symm)
    (((hl2.extBut hs₁.extBut D.l2z).extBut hs₂.extBut D.l2i1).extBut hs₃.extBut D.l2TO) hy fun h₄ h2₄ hs₄ => wpAny_pure ?_)
  have hTO₄ : IsPair h₄ TO x b := hs₄.extBut _ _ D.TOi2 hTO₃
  refine wpAny_bind (wpAny_seqItems hTO₄ rfl ?_)
  refine wpAny_bind (wpAny_updateSeq_pair hTO₄ fun h₅ hTO₅ hs₅ => ?_)
  replace hTO₅ : IsPair h₅ TO x y := hTO₅
  refine wpAny_bind (wpAny_letGo (wpAny_pure (wpAny_pure ?_)))
  refine wpAny_bind (wpAny_seqItems hTO₅ rfl ?_)
  refine wpAny_bind (wpAny_newTuple ?_)
  have hsz : h₅.objs.size = s.heap.objs.size := by rw [hs₅.1, hs₄.1, hs₃.1, hs₂.1, hs₁.1]
  have hz₅ : ZipE h₅ z TI TO .ellipsis f1 := hs₅.extBut _ _ D.TOz.symm (hs₄.extBut _ _ D.i2z.symm (hs₃.extBut _ _ D.TOz.symm (hs₂.extBut _ _ D.i1z.symm hz₁)))
  have hk₅ : ∀ c o, c ≠ z → c ≠ TO → c ≠ i1 → c ≠ i2 → s.heap.get? c = some o → h₅.get? c = some o := fun c o c1 c2 c3 c4 e =>
    hs₅.extBut _ _ c2 (hs₄.extBut _ _ c4 (hs₃.extBut _ _ c2 (hs₂.extBut _ _ c3 (hs₁.extBut _ _ c1 e))))
  have h1₅ : h₅.IsTupleIter i1 l1 (k1 + 1) := ((h1₂.extBut hs₃.extBut D.TOi1.symm).extBut hs₄.extBut D.i12).extBut hs₅.extBut D.TOi1.symm
  have h2₅ : h₅.IsTupleIter i2 l2 (k2 + 1) := h2₄.extBut hs₅.extBut D.TOi2.symm
  have hzlt : z < h₅.objs.size := Heap.lt_size hz₅
  show wpAny _ _ (Builtin.SmallTypes.ownedTupleHandOut (.ref z) (.ref h₅.objs.size) >>= _) _ _ _
  refine wpAny_bind ?_
  unfold Builtin.SmallTypes.ownedTupleHandOut
  have hz₆ : ZipE (h₅.push { cls := .type "tuple", data := .seq #[x, y] }) z TI TO .ellipsis f1 := Heap.get?_push_of_some _ hz₅
  refine wpAny_bind (wpAny_setField_rec hz₆ (by simp) fun h₇ hz₇ hs₇ => ?_)
  replace hz₇ : ZipE h₇ z TI TO (rawInt h₅.objs.size) f1 := hz₇
  refine wpAny_setField_rec hz₇ (by simp) fun h₈ hz₈ hs₈ => ?_
  replace hz₈ : ZipE h₈ z TI TO (rawInt h₅.objs.size) (.bool false) := hz₈
  have up : ∀ c o, c ≠ z → h₅.get? c = some o → h₈.get? c = some o := fun c o c1 e => hs₈.extBut _ _ c1 (hs₇.extBut _ _ c1 (Heap.get?_push_of_some _ e))
  have hT₈ : IsPair h₈ h₅.objs.size x y := hs₈.extBut _ _ (Nat.ne_of_gt hzlt) (hs₇.extBut _ _ (Nat.ne_of_gt hzlt) (Heap.get?_push_size _ rfl))
  have hz8 : h₈.objs.size = h₅.objs.size + 1 := by rw [hs₈.1, hs₇.1, Heap.size_push]
  rw [hsz] at hz₈ hT₈ hz8
  refine wpAny_pure ⟨_, rfl, ?_⟩
  show Q (.ref h₅.objs.size) _
  rw [hsz]
  exact hQ h₈ _ _ x y (.inr ⟨_, rfl⟩) hz₈ (up _ _ D.TOz hTO₅) (h1₅.at fun o e => up _ o D.i1z e) (h2₅.at fun o e => up _ o D.i2z e) hT₈ hz8 fun c o c1 c2 c3 c4 e => up c o c1 (hk₅ c o c1 c2 c3 c4 e)

theorem zipE_end {z TI TO i1 i2 l1 l2 : Addr} {k1 k2 : Nat} {xs ys : Array Value} {a b f0 f1 : Value} {Q : Fin → Shared → Prop} (hh : A.handled = none) (D : ZipApart z TI TO i1 i2 l1 l2)
    (hz : ZipE s.heap z TI TO f0 f1) (hf : OutOk f0) (hTI : IsPair s.heap TI (.ref i1) (.ref i2)) (hTO : IsPair s.heap TO a b)
    (h1 : s.heap.IsTupleIter i1 l1 k1) (h2 : s.heap.IsTupleIter i2 l2 k2) (hl1 : s.heap.IsTuple l1 xs) (hl2 : s.heap.IsTuple l2 ys) (hend : xs[k1]? = none ∨ ys[k2]? = none)
    (hE : ∀ h' e, (∀ c o, c ≠ z → c ≠ TO → c ≠ i1 → c ≠ i2 → s.heap.get? c = some o → h'.get? c = some o) → (∃ o, h'.get? e = some o ∧ o.cls = .type "StopIteration") → E (.ref e) { s with heap := h' }) :
    wpAny (model prog w) A (Builtin.«zip.__next__» ⟨[.ref z], []⟩) Q E s := by
  show wpAny _ _ (field (.ref z) 2 >>= _) _ _ _
  refine wpAny_bind (wpAny_field hz rfl (x := .bool false) rfl ?_)
  show wpAny _ _ (field (.ref z) 3 >>= _) _ _ _
  refine wpAny_bind (wpAny_field hz rfl (x := .ref TI) rfl ?_)
  refine wpAny_bind (wpAny_seqItems hTI rfl ?_)
  show wpAny _ _ (Builtin.SmallTypes.ownedTupleIsFree (.ref z) >>= _) _ _ _
  refine wpAny_bind (zipE_free hz hf ?_ fun h₁ hz₁ hs₁ => ?_)
  rotate_left
  · simp only [Bool.false_eq_true, if_false]
    refine wpAny_bind ?_
    rw [← Array.forIn_toList]
    simp only [List.forIn_cons, List.forIn_nil]
    refine wpAny_bind (wpAny_bind (wpAny_holding ?_))
    show wpAny _ _ (Builtin.SmallTypes.nextOf (.ref i1) >>= _) _ _ _
    cases hx : xs[k1]? with
    | none =>
      refine wpAny_bind (wpAny_nextOf_tuple_end (s := { s with heap := h₁ }) hh (h1.extBut hs₁.extBut D.i1z) (hl1.extBut hs₁.extBut D.l1z) hx fun h₂ e hs₂ he => ?_)
      exact hE h₂ e (fun c o c1 _ c2 _ x => hs₂ _ _ c2 (hs₁.extBut _ _ c1 x)) he
    | some x =>
      have hy : ys[k2]? = none := by rcases hend with h | h; rw [hx] at h; cases h; exact h
      refine wpAny_bind (wpAny_nextOf_tuple_item (s := { s with heap := h₁ }) (h1.extBut hs₁.extBut D.i1z) (hl1.extBut hs₁.extBut D.l1z) hx fun h₂ h1₂ hs₂ => wpAny_pure ?_)
      refine wpAny_pure ?_
      refine wpAny_bind (wpAny_bind (wpAny_holding ?_))
      show wpAny _ _ (Builtin.SmallTypes.nextOf (.ref i2) >>= _) _ _ _
      refine wpAny_bind (wpAny_nextOf_tuple_end (s := { s with heap := h₂ }) hh ((h2.extBut hs₁.extBut D.i2z).extBut hs₂.extBut D.i12.symm) ((hl2.extBut hs₁.extBut D.l2z).extBut hs₂.extBut D.l2i1) hy fun h₃ e hs₃ he => ?_)
      exact hE h₃ e (fun c o c1 _ c2 c3 x => hs₃ _ _ c3 (hs₂.extBut _ _ c2 (hs₁.extBut _ _ c1 x))) he
  simp only [if_true]
  refine wpAny_bind (wpAny_rule ?_)
  refine wpAny_bind (wpAny_field hz rfl (x := .ref TO) rfl ?_)
  refine wpAny_bind (wpAny_setField_rec hz (by simp) fun h₁ hz₁ hs₁ => ?_)
  replace hz₁ : ZipE h₁ z TI TO .ellipsis f1 := hz₁
  refine wpAny_bind ?_
  simp only [List.zipIdx_cons, List.zipIdx_nil, List.forIn_cons, List.forIn_nil]
  refine wpAny_bind (wpAny_bind (wpAny_onRaise ?_))
  show wpAny _ _ (Builtin.SmallTypes.nextOf (.ref i1) >>= _) _ _ _
  cases hx : xs[k1]? with
  | none =>
    refine wpAny_bind (wpAny_nextOf_tuple_end hh (h1.extBut hs₁.extBut D.i1z) (hl1.extBut hs₁.extBut D.l1z) hx fun h₂ e hs₂ he => ?_)
    obtain ⟨oe, hoe, hce⟩ := he
    have hz₂ : ZipE h₂ z TI TO .ellipsis f1 := hs₂ _ _ D.i1z.symm hz₁
    have hez : e ≠ z := fun x => by subst x; rw [hz₂] at hoe; cases hoe; simp at hce
    refine wpAny_setField_rec hz₂ (by simp) fun h₃ _ hs₃ => hE h₃ e (fun c o c1 _ c3 _ x => hs₃.extBut _ _ c1 (hs₂ _ _ c3 (hs₁.extBut _ _ c1 x))) ⟨oe, hs₃.extBut _ _ hez hoe, hce⟩
  | some x =>
    have hy : ys[k2]? = none := by rcases hend with h | h; rw [hx] at h; cases h; exact h
    refine wpAny_bind (wpAny_nextOf_tuple_item (h1.extBut hs₁.extBut D.i1z) (hl1.extBut hs₁.extBut D.l1z) hx fun h₂ h1₂ hs₂ => wpAny_pure ?_)
    have hTO₂ : IsPair h₂ TO a b := hs₂.extBut _ _ D.TOi1 (hs₁.extBut _ _ D.TOz hTO)
    refine wpAny_bind (wpAny_seqItems hTO₂ rfl ?_)
    refine wpAny_bind (wpAny_updateSeq_pair hTO₂ fun h₃ hTO₃ hs₃ => ?_)
    refine wpAny_bind (wpAny_letGo (wpAny_pure ?_))
    refine wpAny_bind (wpAny_bind (wpAny_onRaise ?_))
    show wpAny _ _ (Builtin.SmallTypes.nextOf (.ref i2) >>= _) _ _ _
    refine wpAny_bind (wpAny_nextOf_tuple_end hh (((h2.extBut hs₁.extBut D.i2z).extBut hs₂.extBut D.i12.symm).extBut hs₃.extBut D.TOi2.symm)
      (((hl2.extBut hs₁.extBut D.l2z).extBut hs₂.extBut D.l2i1).extBut hs₃.extBut D.l2TO) hy fun h₄ e hs₄ he => ?_)
    obtain ⟨oe, hoe, hce⟩ := he
    have hz₄ : ZipE h₄ z TI TO .ellipsis f1 := hs₄ _ _ D.i2z.symm (hs₃.extBut _ _ D.TOz.symm (hs₂.extBut _ _ D.i1z.symm hz₁))
    have hez : e ≠ z := fun x => by subst x; rw [hz₄] at hoe; cases hoe; simp at hce
    refine wpAny_setField_rec hz₄ (by simp) fun h₅ _ hs₅ => hE h₅ e (fun c o c1 c2 c3 c4 x => hs₅.extBut _ _ c1 (hs₄ _ _ c4 (hs₃.extBut _ _ c2 (hs₂.extBut _ _ c3 (hs₁.extBut _ _ c1 x))))) ⟨oe, hs₅.extBut _ _ hez hoe, hce⟩

/-- the state of enumerate(zip(t1, t2)): e over z -/
structure EzSt (h : Heap) (e z TI TO i1 i2 l1 l2 : Addr) (i : Nat) : Prop where
  en : ∃ old, IsEnum h e z ((i : Nat) : Int) old
  zp : ∃ f0 f1, OutOk f0 ∧ ZipE h z TI TO f0 f1
  ti : IsPair h TI (.ref i1) (.ref i2)
  to : ∃ a b, IsPair h TO a b
  it1 : h.IsTupleIter i1 l1 i
  it2 : h.IsTupleIter i2 l2 i
structure EzAp (e z TI TO i1 i2 l1 l2 : Addr) : Prop where
  D : ZipApart z TI TO i1 i2 l1 l2
  ez : e ≠ z
  eTI : e ≠ TI
  eTO : e ≠ TO
  e1 : e ≠ i1
  e2 : e ≠ i2

theorem ez_item {e z TI TO i1 i2 l1 l2 : Addr} {i : Nat} {xs ys : Array Value} {x y : Value} {Q : Option Value → Shared → Prop} (P : EzAp e z TI TO i1 i2 l1 l2) (S : EzSt s.heap e z TI TO i1 i2 l1 l2 i)
    (hl1 : s.heap.IsTuple l1 xs) (hl2 : s.heap.IsTuple l2 ys) (hx : xs[i]? = some x) (hy : ys[i]? = some y)
    (hQ : ∀ h' tk, IsEnumOut h' e z (((i : Nat) : Int) + 1) (.ref s.heap.objs.size) (s.heap.objs.size + 1) → (∃ f0 f1, OutOk f0 ∧ ZipE h' z TI TO f0 f1) → IsPair h' TI (.ref i1) (.ref i2) → (∃ a b, IsPair h' TO a b) →
      h'.IsTupleIter i1 l1 (i + 1) → h'.IsTupleIter i2 l2 (i + 1) → IsPair h' s.heap.objs.size x y → IsPair h' (s.heap.objs.size + 1) (.int ((i : Nat) : Int) tk) (.ref s.heap.objs.size) → h'.objs.size = s.heap.objs.size + 2 →
      (∀ c o, c ≠ e → c ≠ z → c ≠ TO → c ≠ i1 → c ≠ i2 → s.heap.get? c = some o → h'.get? c = some o) → Q (some (.ref (s.heap.objs.size + 1))) { s with heap := h', toks := tk + 1 }) :
    wpAny (model prog w) A (pyNext (.ref e)) Q E s := by
  obtain ⟨⟨old, he⟩, ⟨f0, f1, hf, hz⟩, hTI, ⟨a, b, hTO⟩, h1, h2⟩ := S
  have hT : s.TypeIs (.ref e) "enumerate" := ⟨_, he, rfl⟩
  unfold pyNext
  refine wpAny_bind (wpAny_attempt (wpAny_callSpecial?_slot (name := Str.ofString "__next__") hT F.slot_enumerate_next
    (wpAny_call_entry F.slot_enumerate_next hT F.entry_enumerate_next ?_ (F.args_enumerate_next_1 _))))
  obtain ⟨hp, g, d, tk, os⟩ := s
  have hTz : Shared.TypeIs ⟨hp, g, d, tk, os⟩ (.ref z) "zip" := ⟨_, hz, rfl⟩
  show wpAny _ _ (field (.ref e) 2 >>= _) _ _ _
  refine wpAny_bind (wpAny_field he rfl (x := .ref z) rfl ?_)
  refine wpAny_bind ?_
  unfold Builtin.SmallTypes.nextOf
  refine wpAny_bind (wpAny_callSpecial?_slot (name := Str.ofString "__next__") hTz F.slot_zip_next
    (wpAny_call_entry F.slot_zip_next hTz F.entry_zip_next (zipE_item P.D hz hf hTI hTO h1 h2 hl1 hl2 hx hy fun h₁ f0' f1' a' b' hf' hz₁ hTO₁ h1₁ h2₁ hT₁ hs₁ hk₁ => ?_) (F.args_zip_next_1 _)))
  refine wpAny_pure ?_
  replace hT₁ : IsPair h₁ hp.objs.size x y := hT₁
  replace hs₁ : h₁.objs.size = hp.objs.size + 1 := hs₁
  replace hk₁ : ∀ c o, c ≠ z → c ≠ TO → c ≠ i1 → c ≠ i2 → hp.get? c = some o → h₁.get? c = some o := hk₁
  have hel : e < hp.objs.size := Heap.lt_size he
  have he₁ : IsEnum h₁ e z ((i : Nat) : Int) old := hk₁ _ _ P.ez P.eTO P.e1 P.e2 he
  have hTI₁ : IsPair h₁ TI (.ref i1) (.ref i2) := hk₁ _ _ P.D.TIz P.D.TITO P.D.TIi1 P.D.TIi2 hTI
  show wpAny _ _ (field (.ref e) 3 >>= _) _ _ ⟨h₁, g, d, tk, os⟩
  refine wpAny_bind (wpAny_field he₁ rfl (x := rawInt ((i : Nat) : Int)) rfl ?_)
  show wpAny _ _ (field (.ref e) 4 >>= _) _ _ ⟨h₁, g, d, tk, os⟩
  refine wpAny_bind (wpAny_field he₁ rfl (x := .none) rfl ?_)
  show wpAny _ _ (mkInt ((i : Nat) : Int) >>= _) _ _ ⟨h₁, g, d, tk, os⟩
  refine wpAny_bind (wpAny_mkInt ?_)
  show wpAny _ _ (setField (.ref e) 3 (rawInt (((i : Nat) : Int) + 1)) >>= _) _ _ ⟨h₁, g, d, tk + 1, os⟩
  refine wpAny_bind (wpAny_setField_rec he₁ (by simp) fun h₂ he₂ hs₂ => ?_)
  replace hs₂ : Heap.SameBut e h₁ h₂ := hs₂
  replace he₂ : IsEnum h₂ e z (((i : Nat) : Int) + 1) old := he₂
  show wpAny _ _ (setField (.ref e) 4 .none >>= _) _ _ ⟨h₂, g, d, tk + 1, os⟩
  refine wpAny_bind (wpAny_setField_rec he₂ (by simp) fun h₃ he₃ hs₃ => ?_)
  replace hs₃ : Heap.SameBut e h₂ h₃ := hs₃
  replace he₃ : IsEnum h₃ e z (((i : Nat) : Int) + 1) old := he₃
  show wpAny _ _ (newTuple [.int ((i : Nat) : Int) tk, .ref hp.objs.size] >>= _) _ _ ⟨h₃, g, d, tk + 1, os⟩
  refine wpAny_bind (wpAny_newTuple ?_)
  have he₄ : IsEnum (h₃.push { cls := .type "tuple", data := .seq #[.int ((i : Nat) : Int) tk, .ref hp.objs.size] }) e z (((i : Nat) : Int) + 1) old := Heap.get?_push_of_some _ he₃
  generalize hh₄ : h₃.push { cls := .type "tuple", data := .seq #[.int ((i : Nat) : Int) tk, .ref hp.objs.size] } = h₄ at he₄
  have hsz : h₃.objs.size = hp.objs.size + 1 := by rw [hs₃.1, hs₂.1, hs₁]
  have up₄ : ∀ c o, c ≠ e → h₁.get? c = some o → h₄.get? c = some o := fun c o c0 q => by
    rw [← hh₄]; exact Heap.get?_push_of_some _ (hs₃.extBut c o c0 (hs₂.extBut c o c0 q))
  have ht₄ : IsPair h₄ (hp.objs.size + 1) (.int ((i : Nat) : Int) tk) (.ref hp.objs.size) := by
    show h₄.get? _ = _
    rw [← hh₄, ← hsz]; exact Heap.get?_push_size _ rfl
  have hz₄ : h₄.objs.size = hp.objs.size + 2 := by rw [← hh₄, Heap.size_push, hsz]
  show wpAny _ _ (Builtin.SmallTypes.ownedTupleIsFree (.ref e) >>= _) _ _ ⟨h₄, g, d, tk + 1, os⟩
  rw [hsz]
  clear hh₄ he₃ hs₃ he₂ hs₂ he₁ hsz h₃ h₂
  refine wpAny_bind ?_
  unfold Builtin.SmallTypes.ownedTupleIsFree
  refine wpAny_bind (wpAny_field he₄ rfl (x := .none) rfl (wpAny_pure ?_))
  simp only [if_true]
  refine wpAny_bind (wpAny_rule ?_)
  refine wpAny_bind (wpAny_field he₄ rfl (x := old) rfl ?_)
  refine wpAny_bind (wpAny_setField_rec he₄ (by simp) fun h₅ he₅ hs₅ => ?_)
  replace hs₅ : Heap.SameBut e h₄ h₅ := hs₅
  replace he₅ : IsEnum h₅ e z (((i : Nat) : Int) + 1) (.ref hp.objs.size) := he₅
  show wpAny _ _ (Builtin.SmallTypes.ownedTupleHandOut (.ref e) (.ref (hp.objs.size + 1)) >>= _) _ _ ⟨h₅, g, d, tk + 1, os⟩
  refine wpAny_bind ?_
  unfold Builtin.SmallTypes.ownedTupleHandOut
  refine wpAny_bind (wpAny_setField_rec he₅ (by simp) fun h₆ he₆ hs₆ => ?_)
  replace hs₆ : Heap.SameBut e h₅ h₆ := hs₆
  replace he₆ : IsEnumOut h₆ e z (((i : Nat) : Int) + 1) (.ref hp.objs.size) (hp.objs.size + 1) := he₆
  refine wpAny_setField_rec he₆ (by simp) fun h₇ he₇ hs₇ => ?_
  replace hs₇ : Heap.SameBut e h₆ h₇ := hs₇
  replace he₇ : IsEnumOut h₇ e z (((i : Nat) : Int) + 1) (.ref hp.objs.size) (hp.objs.size + 1) := he₇
  have up₇ : ∀ c o, c ≠ e → h₄.get? c = some o → h₇.get? c = some o := fun c o c0 q => hs₇.extBut c o c0 (hs₆.extBut c o c0 (hs₅.extBut c o c0 q))
  have up : ∀ c o, c ≠ e → h₁.get? c = some o → h₇.get? c = some o := fun c o c0 q => up₇ c o c0 (up₄ c o c0 q)
  refine wpAny_bind (wpAny_letGo (wpAny_pure ⟨_, rfl, wpAny_pure (hQ h₇ tk he₇ ⟨f0', f1', hf', up _ _ P.ez.symm hz₁⟩ (up _ _ P.eTI.symm hTI₁) ⟨a', b', up _ _ P.eTO.symm hTO₁⟩ (h1₁.at fun o q => up _ o P.e1.symm q) (h2₁.at fun o q => up _ o P.e2.symm q)
    (up _ _ (Nat.ne_of_gt hel) hT₁) (up₇ _ _ (Nat.ne_of_gt (Nat.lt_succ_of_lt hel)) ht₄) (by rw [hs₇.1, hs₆.1, hs₅.1, hz₄]) fun c o c0 c1 c2 c3 c4 q => up c o c0 (hk₁ c o c1 c2 c3 c4 q))⟩))

theorem ez_end {e z TI TO i1 i2 l1 l2 : Addr} {i : Nat} {xs ys : Array Value} {Q : Option Value → Shared → Prop} (hh : A.handled = none) (P : EzAp e z TI TO i1 i2 l1 l2) (S : EzSt s.heap e z TI TO i1 i2 l1 l2 i)
    (hl1 : s.heap.IsTuple l1 xs) (hl2 : s.heap.IsTuple l2 ys) (hend : xs[i]? = none ∨ ys[i]? = none)
    (hQ : ∀ h', (∀ c o, c ≠ z → c ≠ TO → c ≠ i1 → c ≠ i2 → s.heap.get? c = some o → h'.get? c = some o) → Q none { s with heap := h' }) : wpAny (model prog w) A (pyNext (.ref e)) Q E s := by
  obtain ⟨⟨old, he⟩, ⟨f0, f1, hf, hz⟩, hTI, ⟨a, b, hTO⟩, h1, h2⟩ := S
  have hT : s.TypeIs (.ref e) "enumerate" := ⟨_, he, rfl⟩
  have hTz : s.TypeIs (.ref z) "zip" := ⟨_, hz, rfl⟩
  unfold pyNext
  refine wpAny_bind (wpAny_attempt (wpAny_callSpecial?_slot (name := Str.ofString "__next__") hT F.slot_enumerate_next
    (wpAny_call_entry F.slot_enumerate_next hT F.entry_enumerate_next ?_ (F.args_enumerate_next_1 _))))
  show wpAny _ _ (field (.ref e) 2 >>= _) _ _ _
  refine wpAny_bind (wpAny_field he rfl (x := .ref z) rfl ?_)
  refine wpAny_bind ?_
  unfold Builtin.SmallTypes.nextOf
  refine wpAny_bind (wpAny_callSpecial?_slot (name := Str.ofString "__next__") hTz F.slot_zip_next
    (wpAny_call_entry F.slot_zip_next hTz F.entry_zip_next (zipE_end hh P.D hz hf hTI hTO h1 h2 hl1 hl2 hend fun h' x hk hx' => ?_) (F.args_zip_next_1 _)))
  obtain ⟨o, ho, hc⟩ := hx'
  refine wpAny_bind (wpAny_isInstance (T := "StopIteration") (b := true) ⟨o, ho, hc⟩ isSubtype_stop ?_)
  exact wpAny_pure (hQ _ hk)
end
end K15
end
section
set_option maxRecDepth 100000
set_option maxHeartbeats 4000000
namespace K15
open PySem PySem.Spec PyProof.Rows L2
section
variable {X : Cx} {pins : List (Addr × Obj)} {σ : L2.St} {H : Hp} {s : Shared} {h' : Heap}
/-- records of ours have turned, two new objects are laid -/
theorem turnedNew2 {t' : Nat} {ch : List Addr} {T T2 : Addr} {ob ob2 : HO} (I : Inv X pins σ H s) (k : ∀ b o, b ∉ ch → s.heap.get? b = some o → h'.get? b = some o) (hf : ∀ b ∈ ch, FpOk X pins H b) (hT : s.heap.objs.size ≤ T) (hT2 : s.heap.objs.size ≤ T2) (hne : T ≠ T2)
    (new : ObjOk X.prog X.w (upd (upd H T ob) T2 ob2) h' T ob) (new2 : ObjOk X.prog X.w (upd (upd H T ob) T2 ob2) h' T2 ob2) : Inv X pins σ (upd (upd H T ob) T2 ob2) { s with heap := h', toks := t' } := by
  have hn : H T = none := I.hok.fresh hT
  have hn2 : H T2 = none := I.hok.fresh hT2
  have keepH : ∀ b u, H b = some u → upd (upd H T ob) T2 ob2 b = some u := fun b u e => by
    rw [upd_ne (ne_of_none e hn2), upd_ne (ne_of_none e hn)]; exact e
  have nit : ∀ b u, H b = some u → b ∉ ch := fun b u e z => by
    have q := (hf b z).1
    rw [q] at e; cases e
  refine I.step (g' := s.gens) (d' := s.drawn) (ch := ch) (fun b hb => ⟨(hf b hb).2.2.2.1, (hf b hb).2.1, (hf b hb).2.2.2.2.1, (hf b hb).2.2.2.2.2⟩) (fun b o _ _ hc e _ => k b o hc e) (fun b o _ _ hc e _ => ⟨o.slots, k b o hc e⟩)
    (fun b o _ e n => ?_) (fun b o hc e => ⟨o, k b o hc e⟩) (fun b xs e => keepH _ _ e) (fun b o u e => keepH _ _ e) (fun b ps e => ⟨#[], ?_⟩) (fun m hm => ?_) (fun b u e => ?_) I.bare
  · rw [upd_ne (Nat.ne_of_lt (Nat.lt_of_lt_of_le (Heap.lt_size e) hT2)), upd_ne (Nat.ne_of_lt (Nat.lt_of_lt_of_le (Heap.lt_size e) hT))]; exact n
  · rw [keepH _ _ e]; simp
  · obtain ⟨o, es, ep, ho, r⟩ := hm
    exact ⟨o, es, ep, k _ o (fun z => (hf _ z).2.1 rfl) ho, r⟩
  · by_cases hb : b = T2
    · subst hb
      rw [upd_same] at e
      cases e
      exact new2
    · by_cases hb1 : b = T
      · subst hb1
        rw [upd_ne hb, upd_same] at e
        cases e
        exact new
      · rw [upd_ne hb, upd_ne hb1] at e
        refine (I.hok b u e).stay (fun c v hc q => k c v ?_ q) (fun c q => keepH _ _ q) fun c xs q => keepH _ _ q
        rcases hc with z | z
        · rw [z]; exact nit b u e
        · exact nit c _ z
end

/-! ### enumerate(tuple) -/
theorem turn_enumT {P : Program} {w : World} {K : PySem.W.Frag} {elts : List Expr} {kk : Nat} {tpos : Pos} (a e it : Addr) :
    Turn P w K (.Tuple elts kk tpos) (IteT K a) [e, it] e (fun i h => (∃ old, IsEnum h e it ((i : Nat) : Int) old) ∧ h.IsTupleIter it a i ∧ e ≠ it ∧ a ≠ it ∧ e ≠ a) where
  mem := by simp
  obj := fun i h st b hb => by
    obtain ⟨⟨old, he⟩, ⟨o, ho, hc, hd⟩, _⟩ := st
    have e' : b = e ∨ b = it := by simpa using hb
    rcases e' with z | z
    · rw [z]; exact ⟨_, he, fun v q => nomatch q⟩
    · rw [z]; exact ⟨o, ho, fun v q => by rw [hd] at q; cases q⟩
  keep := fun i h h' st k => let ⟨⟨old, he⟩, hi, hne⟩ := st; ⟨⟨old, k e (by simp) _ he⟩, hi.at fun o q => k it (by simp) o q, hne⟩
  item := by
    intro X hP hw hK hc i pins s σ H E I hf st hg
    subst hP hw hK
    obtain ⟨⟨old, he⟩, hit, hne, hai, hea⟩ := st
    obtain ⟨xs, x, hq, hx⟩ := hg
    obtain ⟨its, rv, p, hz⟩ := I.tuple hq
    obtain ⟨u, hu, ru⟩ := rv.get hx
    have hel : e < s.heap.objs.size := Heap.lt_size he
    have hil : it < s.heap.objs.size := by obtain ⟨_, q, _⟩ := hit; exact Heap.lt_size q
    have hsz : i < its.toArray.size := by
      obtain ⟨h1, _⟩ := List.getElem?_eq_some_iff.mp hu
      simpa using h1
    refine wpAny_pyNext_enum_itemC (P := fun i v => its.toArray[i]? = some v) (St := fun i h => h.IsTupleIter it a i ∧ h.IsTuple a its.toArray) (Draws.tuple (show X.A.in1.handled = none from I.ok.hd hc) it a hai its.toArray) he ⟨hit, p⟩ hsz hne (by simp [hne, hea]) fun x' h' tk hx' ho hit' hT hsz hk => ?_
    have ex : x' = u := by
      have : its.toArray[i]? = some u := by simpa using hu
      rw [this] at hx'; exact (Option.some.inj hx').symm
    subst ex
    refine ⟨_, rfl, wpAny_letOwnedTupleGo_enum (s := { s with heap := h', toks := tk + 1 }) ho fun h'' he' sb => ?_⟩
    have hT2 : h''.get? s.heap.objs.size = some { cls := .type "tuple", data := .seq #[.int i tk, x'] } := (sb.2 _ (Nat.ne_of_gt hel)).trans hT
    have new : ObjOk X.prog X.w (upd H s.heap.objs.size (.tup [.int (i : Nat), x])) h'' s.heap.objs.size (.tup [.int (i : Nat), x]) :=
      ⟨by show 2 ≤ sizeLine; decide, [.int i tk, x'], .cons ⟨_, rfl⟩ (.cons ru .nil), ⟨_, hT2, rfl, _, rfl⟩⟩
    have I1 : Inv X pins σ (upd H s.heap.objs.size (.tup [.int (i : Nat), x])) { s with heap := h'', toks := tk + 1 } :=
      I.turnedNew (ch := [e, it]) (fun b ob hb q => (sb.2 b (fun z => hb (by simp [z]))).trans (hk b ob (fun z => hb (by simp [z])) (fun z => hb (by simp [z])) q)) hf (Nat.le_refl _) new
    refine ⟨.ref s.heap.objs.size, _, I1, rfl, ⟨_, x, rfl, I.hok.fresh (Nat.le_refl _), rfl, fun ys hy => by rw [I.tuple_inj hy hq]; exact hx⟩, ⟨⟨x', ?_⟩, hit'.1.at fun o q => (sb.2 it (Ne.symm hne)).trans q, hne, hai, hea⟩, fun b hb => ?_⟩
    · have e1 : ((i + 1 : Nat) : Int) = (i : Int) + 1 := by omega
      rw [e1]; exact he'
    · have hb' : b < s.heap.objs.size := by
        have e' : b = e ∨ b = it := by simpa using hb
        rcases e' with z | z
        · rw [z]; exact hel
        · rw [z]; exact hil
      rw [upd_ne (Nat.ne_of_lt hb')]
      exact (hf b hb).1
  done := by
    intro X hP hw hK hc i pins s σ H E I hf st hg
    subst hP hw hK
    obtain ⟨⟨old, he⟩, hit, hne, hai, hea⟩ := st
    obtain ⟨xs, hq, hx⟩ := hg
    obtain ⟨its, rv, p, hz⟩ := I.tuple hq
    obtain ⟨f0, f1, f2, f3, f4, f5⟩ := hf it (by simp)
    have hl := rv.length
    have hT : s.TypeIs (.ref e) "enumerate" := ⟨_, he, rfl⟩
    unfold pyNext
    refine wpAny_bind (wpAny_attempt (wpAny_callSpecial?_slot (name := Str.ofString "__next__") hT F.slot_enumerate_next
      (wpAny_call_entry F.slot_enumerate_next hT F.entry_enumerate_next ?_ (F.args_enumerate_next_1 _))))
    show wpAny _ _ (field (.ref e) 2 >>= _) _ _ _
    refine wpAny_bind (wpAny_field he rfl (x := .ref it) rfl ?_)
    refine wpAny_bind (wpAny_nextOf_tuple_end (I.ok.hd hc) hit (show s.heap.IsTuple a its.toArray from p) (by simp; omega) fun h' x eb hx' => ?_)
    obtain ⟨o, ho, hco⟩ := hx'
    refine wpAny_bind (wpAny_isInstance (T := "StopIteration") (b := true) ⟨o, ho, hco⟩ isSubtype_stop ?_)
    exact wpAny_pure ⟨rfl, I.turned (t' := s.toks) (fun b o hb q => eb b o hb q) f0 f1 f3 f4 f5⟩
  self := fun A i s Q E st h => let ⟨⟨_, he⟩, _⟩ := st; wpAny_pyIter_enum he h
def iEnumT (K : PySem.W.Frag) (ta : TA) : TI := fun σ H R => ta σ H fun vs H1 => ∃ a xs, vs = [.ref a] ∧ SqT K H1 a xs ∧ R (IteT K a) H1
theorem pi_enumT {X : Cx} {e : Expr} {ta : TA} {p pos tpos : Pos} {elts : List Expr} {kk : Nat} (hg : Gl X "enumerate") (hm : X.mg "enumerate" = none) (ha : PA X [e] ta) (hs : starEach [e] X.env = [(false, eval e X.env)] := by rfl) :
    PI X (.Tuple elts kk tpos) (.Call (.Name "enumerate" p) [e] [] pos) (iEnumT X.K ta) := by
  refine ⟨fun pins s σ H R I h => ?_⟩
  refine Call_ (ld_blt I hg hm boot_enumerate (PyProof.Rows.callWith_type1 (thn (ha.run pos pins s σ H _ I h) fun us s1 ⟨vs, H1, I1, r1, q1⟩ => ?_) hs rfl))
  obtain ⟨a, xs, ex, hq, q⟩ := q1
  subst ex
  cases r1 with
  | cons r rr =>
    cases rr
    cases r
    obtain ⟨its, rv, p', hz⟩ := I1.tuple hq
    have la : a < s1.heap.objs.size := p'.lt
    have hit0 : (s1.heap.push { cls := .type "tuple_iterator", data := .fields #[.ref a, .int 0 0] }).get? s1.heap.objs.size = some _ := Heap.get?_push_size _ rfl
    have hsz0 : (s1.heap.push { cls := .type "tuple_iterator", data := .fields #[.ref a, .int 0 0] }).objs.size = s1.heap.objs.size + 1 := Heap.size_push ..
    refine enum1_begins (I := s1.heap.objs.size) (h1 := s1.heap.push { cls := .type "tuple_iterator", data := .fields #[.ref a, .int 0 0] }) (fun prog w A E Q q => wpAny_pyIter_tuple (show s1.heap.IsTuple a its.toArray from p') q) fun h' he hk hsz => ?_
    rw [hsz0] at he ⊢
    refine wpAny_pyIter_enum he ?_
    have I2 : Inv X pins σ H1 { s1 with heap := h' } := I1.kept (t' := s1.toks) fun b o q => hk b o (Heap.get?_push_of_some _ q)
    refine ⟨s1.heap.objs.size + 1, [s1.heap.objs.size + 1, s1.heap.objs.size], _, _, H1, rfl, I2, turn_enumT a (s1.heap.objs.size + 1) s1.heap.objs.size, ⟨⟨.none, he⟩, ⟨_, hk _ _ hit0, rfl, rfl⟩, Nat.succ_ne_self _, Nat.ne_of_lt la, Nat.ne_of_gt (Nat.lt_succ_of_lt la)⟩, fun b hb => ?_, q⟩
    have e' : b = s1.heap.objs.size + 1 ∨ b = s1.heap.objs.size := by simpa using hb
    have hle : s1.heap.objs.size ≤ b := by
      rcases e' with z | z
      · rw [z]; exact Nat.le_add_right _ _
      · rw [z]; exact Nat.le_refl _
    exact I1.fpOk hle (I1.hok.fresh hle)

/-! ### enumerate(zip(t1, t2)), both tuples -/
def IteZ (K : PySem.W.Frag) (a b : Addr) : It :=
  ⟨fun i H => ∃ (xs ys : List V) (x y : V), SqT K H a xs ∧ SqT K H b ys ∧ xs[i]? = some x ∧ ys[i]? = some y,
    fun i H v H' => ∃ T T2 x y, v = .ref T2 ∧ H T = none ∧ H T2 = none ∧ T ≠ T2 ∧ H' = upd (upd H T (.tup [x, y])) T2 (.tup [.int (i : Nat), .ref T]) ∧ (∀ xs, SqT K H a xs → xs[i]? = some x) ∧ ∀ ys, SqT K H b ys → ys[i]? = some y,
    fun i H => ∃ xs ys : List V, SqT K H a xs ∧ SqT K H b ys ∧ (xs.length ≤ i ∨ ys.length ≤ i)⟩
theorem turn_enumZ {P : Program} {w : World} {K : PySem.W.Frag} {elts : List Expr} {kk : Nat} {tpos : Pos} {a b e z TI TO i1 i2 : Addr} (A0 : EzAp e z TI TO i1 i2 a b) :
    Turn P w K (.Tuple elts kk tpos) (IteZ K a b) [e, z, TI, TO, i1, i2] e (fun i h => EzSt h e z TI TO i1 i2 a b i) where
  mem := by simp
  obj := fun i h st c hc => by
    obtain ⟨⟨old, he⟩, ⟨f0, f1, hf, hz⟩, hTI, ⟨x, y, hTO⟩, ⟨o1, e1, _, d1⟩, ⟨o2, e2, _, d2⟩⟩ := st
    have e' : c = e ∨ c = z ∨ c = TI ∨ c = TO ∨ c = i1 ∨ c = i2 := by simpa using hc
    rcases e' with q | q | q | q | q | q
    · rw [q]; exact ⟨_, he, fun v q => nomatch q⟩
    · rw [q]; exact ⟨_, hz, fun v q => nomatch q⟩
    · rw [q]; exact ⟨_, hTI, fun v q => nomatch q⟩
    · rw [q]; exact ⟨_, hTO, fun v q => nomatch q⟩
    · rw [q]; exact ⟨o1, e1, fun v q => by rw [d1] at q; cases q⟩
    · rw [q]; exact ⟨o2, e2, fun v q => by rw [d2] at q; cases q⟩
  keep := fun i h h' st k => by
    obtain ⟨⟨old, he⟩, ⟨f0, f1, hf, hz⟩, hTI, ⟨x, y, hTO⟩, h1, h2⟩ := st
    exact ⟨⟨old, k e (by simp) _ he⟩, ⟨f0, f1, hf, k z (by simp) _ hz⟩, k TI (by simp) _ hTI, ⟨x, y, k TO (by simp) _ hTO⟩, h1.at fun o q => k i1 (by simp) o q, h2.at fun o q => k i2 (by simp) o q⟩
  item := by
    intro X hP hw hK hc i pins s σ H E I hf st hg
    subst hP hw hK
    obtain ⟨xs, ys, x, y, hqx, hqy, hx, hy⟩ := hg
    obtain ⟨its, rv, p, _⟩ := I.tuple hqx
    obtain ⟨its2, rv2, p2, _⟩ := I.tuple hqy
    obtain ⟨u, hu, ru⟩ := rv.get hx
    obtain ⟨u2, hu2, ru2⟩ := rv2.get hy
    have lt : ∀ c ∈ [e, z, TI, TO, i1, i2], c < s.heap.objs.size := by
      obtain ⟨⟨old, he⟩, ⟨f0, f1, hf, hz⟩, hTI, ⟨x, y, hTO⟩, ⟨o1, e1, _⟩, ⟨o2, e2, _⟩⟩ := st
      intro c hc
      have e' : c = e ∨ c = z ∨ c = TI ∨ c = TO ∨ c = i1 ∨ c = i2 := by simpa using hc
      rcases e' with q | q | q | q | q | q
      · rw [q]; exact Heap.lt_size he
      · rw [q]; exact Heap.lt_size hz
      · rw [q]; exact Heap.lt_size hTI
      · rw [q]; exact Heap.lt_size hTO
      · rw [q]; exact Heap.lt_size e1
      · rw [q]; exact Heap.lt_size e2
    have hel : e < s.heap.objs.size := lt e (by simp)
    refine ez_item A0 st p p2 (x := u) (y := u2) (by simpa using hu) (by simpa using hu2) fun h' tk ho hz' hTI' hTO' h1' h2' hT hT2 hsz hk => ?_
    refine ⟨_, rfl, wpAny_letOwnedTupleGo_enum (s := { s with heap := h', toks := tk + 1 }) ho fun h'' he' sb => ?_⟩
    replace sb : Heap.SameBut e h' h'' := sb
    have gT : h''.get? s.heap.objs.size = some { cls := .type "tuple", data := .seq #[u, u2] } := (sb.2 _ (Nat.ne_of_gt hel)).trans hT
    have gT2 : h''.get? (s.heap.objs.size + 1) = some { cls := .type "tuple", data := .seq #[.int i tk, .ref s.heap.objs.size] } := (sb.2 _ (Nat.ne_of_gt (Nat.lt_succ_of_lt hel))).trans hT2
    have I1 : Inv X pins σ (upd (upd H s.heap.objs.size (.tup [x, y])) (s.heap.objs.size + 1) (.tup [.int (i : Nat), .ref s.heap.objs.size])) { s with heap := h'', toks := tk + 1 } := by
      refine turnedNew2 (ch := [e, z, TI, TO, i1, i2]) I (fun c o hb q => (sb.2 c (fun q' => hb (by simp [q']))).trans (hk c o (fun q' => hb (by simp [q'])) (fun q' => hb (by simp [q'])) (fun q' => hb (by simp [q'])) (fun q' => hb (by simp [q'])) (fun q' => hb (by simp [q'])) q)) hf
        (Nat.le_refl _) (Nat.le_succ _) (Nat.ne_of_lt (Nat.lt_succ_self _)) ?_ ?_
      · exact ⟨by show 2 ≤ sizeLine; decide, [u, u2], .cons ru (.cons ru2 .nil), ⟨_, gT, rfl, _, rfl⟩⟩
      · exact ⟨by show 2 ≤ sizeLine; decide, [.int i tk, .ref s.heap.objs.size], .cons ⟨_, rfl⟩ (.cons rfl .nil), ⟨_, gT2, rfl, _, rfl⟩⟩
    refine ⟨.ref (s.heap.objs.size + 1), _, I1, rfl, ⟨s.heap.objs.size, s.heap.objs.size + 1, x, y, rfl, I.hok.fresh (Nat.le_refl _), I.hok.fresh (Nat.le_succ _), Nat.ne_of_lt (Nat.lt_succ_self _), rfl, fun l hl => by rw [I.tuple_inj hl hqx]; exact hx, fun l hl => by rw [I.tuple_inj hl hqy]; exact hy⟩, ?_, fun c hcm => ?_⟩
    · obtain ⟨f0', f1', hf', hz'⟩ := hz'
      obtain ⟨a', b', hTO'⟩ := hTO'
      refine ⟨⟨.ref s.heap.objs.size, ?_⟩, ⟨f0', f1', hf', (sb.2 _ A0.ez.symm).trans hz'⟩, (sb.2 _ A0.eTI.symm).trans hTI', ⟨a', b', (sb.2 _ A0.eTO.symm).trans hTO'⟩, h1'.at fun o q => (sb.2 _ A0.e1.symm).trans q, h2'.at fun o q => (sb.2 _ A0.e2.symm).trans q⟩
      have e1 : ((i + 1 : Nat) : Int) = (i : Int) + 1 := by omega
      rw [e1]; exact he'
    · have hlt := lt c hcm
      rw [upd_ne (Nat.ne_of_lt (Nat.lt_succ_of_lt hlt)), upd_ne (Nat.ne_of_lt hlt)]
      exact (hf c hcm).1
  done := by
    intro X hP hw hK hc i pins s σ H E I hf st hg
    subst hP hw hK
    obtain ⟨xs, ys, hqx, hqy, hend⟩ := hg
    obtain ⟨its, rv, p, _⟩ := I.tuple hqx
    obtain ⟨its2, rv2, p2, _⟩ := I.tuple hqy
    have l1 := rv.length
    have l2 := rv2.length
    have he : its.toArray[i]? = none ∨ its2.toArray[i]? = none := by
      rcases hend with q | q
      · exact .inl (by simp; omega)
      · exact .inr (by simp; omega)
    exact ez_end (I.ok.hd hc) A0 st p p2 he fun h' hk => ⟨rfl, I.turnedL (t' := s.toks) (ch := [e, z, TI, TO, i1, i2]) (fun c o hb q =>
      hk c o (fun q' => hb (by simp [q'])) (fun q' => hb (by simp [q'])) (fun q' => hb (by simp [q'])) (fun q' => hb (by simp [q'])) q) hf⟩
  self := fun A i s Q E st h => let ⟨_, he⟩ := st.en; wpAny_pyIter_enum he h
def iEnumZ (K : PySem.W.Frag) (ta : TA) : TI := fun σ H R => ta σ H fun vs H1 => ∃ a b xs ys, vs = [.ref a, .ref b] ∧ SqT K H1 a xs ∧ SqT K H1 b ys ∧ R (IteZ K a b) H1
theorem pi_enumZ {X : Cx} {e e2 : Expr} {ta : TA} {p pos tpos p2 pos2 : Pos} {elts : List Expr} {kk : Nat} (hg : Gl X "enumerate") (hm : X.mg "enumerate" = none) (hg2 : Gl X "zip") (hm2 : X.mg "zip" = none) (ha : PA X [e, e2] ta)
    (hs : starEach [e, e2] X.env = (false, eval e X.env) :: starEach [e2] X.env := by rfl) (hpl : (backTo pos2 (starEach [e2] X.env)).any (·.1) = false := by rfl)
    (hs2 : starEach [.Call (.Name "zip" p2) [e, e2] [] pos2] X.env = [(false, eval (.Call (.Name "zip" p2) [e, e2] [] pos2) X.env)] := by rfl) :
    PI X (.Tuple elts kk tpos) (.Call (.Name "enumerate" p) [.Call (.Name "zip" p2) [e, e2] [] pos2] [] pos) (iEnumZ X.K ta) := by
  refine ⟨fun pins s σ H R I h => ?_⟩
  refine Call_ (ld_blt I hg hm boot_enumerate (PyProof.Rows.callWith_type1 ?_ hs2 rfl))
  rw [hs2]
  show wpAny _ _ (spliced ((false, eval (.Call (.Name "zip" p2) [e, e2] [] pos2) X.env) :: backTo pos [])) _ _ s
  refine Calls.spliced_cons ?_
  refine Call_ (ld_blt I hg2 hm2 PyProof.Rows.boot_zip (PyProof.Rows.callWith_type1 (thn (ha.run pos2 pins s σ H _ I h) fun us s1 ⟨vs, H1, I1, r1, q1⟩ => ?_) hs hpl))
  obtain ⟨a, b, xs, ys, ex, hqx, hqy, q⟩ := q1
  subst ex
  cases r1 with
  | cons r rr =>
    cases rr with
    | cons r' rr =>
      cases rr
      cases r
      cases r'
      obtain ⟨its, rv, p1, _⟩ := I1.tuple hqx
      obtain ⟨its2, rv2, p2, _⟩ := I1.tuple hqy
      have la : a < s1.heap.objs.size := p1.lt
      have lb : b < s1.heap.objs.size := p2.lt
      refine RZ.call_zipT p1 p2 fun h' hz hTI hTO h1 h2 hsz hk => ?_
      refine Calls.spliced_nil ?_
      refine enum1_begins (s := { s1 with heap := h' }) (I := s1.heap.objs.size + 4) (h1 := h') (fun prog w A E Q q => wpAny_pyIter_zip hz q) fun h'' he hk' hsz' => ?_
      rw [hsz] at he ⊢
      refine wpAny_pyIter_enum he ?_
      have I2 : Inv X pins σ H1 { s1 with heap := h'' } := I1.kept (t' := s1.toks) fun c o q => hk' c o (hk c o q)
      have nn : ∀ i j : Nat, i ≠ j → (s1.heap.objs.size + i : Nat) ≠ s1.heap.objs.size + j := fun i j hij => by omega
      refine ⟨s1.heap.objs.size + 5, [s1.heap.objs.size + 5, s1.heap.objs.size + 4, s1.heap.objs.size + 2, s1.heap.objs.size + 3, s1.heap.objs.size, s1.heap.objs.size + 1], _, _, H1, rfl, I2,
        turn_enumZ ⟨PySem.W.ktu_apart s1.heap.objs.size a b la lb, nn 5 4 (by decide), nn 5 2 (by decide), nn 5 3 (by decide), nn 5 0 (by decide), nn 5 1 (by decide)⟩,
        ⟨⟨.none, he⟩, ⟨_, _, .inl rfl, hk' _ _ hz⟩, hk' _ _ hTI, ⟨_, _, hk' _ _ hTO⟩, h1.at fun o q => hk' _ o q, h2.at fun o q => hk' _ o q⟩, fun c hcm => ?_, q⟩
      have e' : c = s1.heap.objs.size + 5 ∨ c = s1.heap.objs.size + 4 ∨ c = s1.heap.objs.size + 2 ∨ c = s1.heap.objs.size + 3 ∨ c = s1.heap.objs.size ∨ c = s1.heap.objs.size + 1 := by simpa using hcm
      have hle : s1.heap.objs.size ≤ c := by
        rcases e' with z | z | z | z | z | z
        · rw [z]; exact Nat.le_add_right _ _
        · rw [z]; exact Nat.le_add_right _ _
        · rw [z]; exact Nat.le_add_right _ _
        · rw [z]; exact Nat.le_add_right _ _
        · rw [z]; exact Nat.le_refl _
        · rw [z]; exact Nat.le_add_right _ _
      exact I1.fpOk hle (I1.hok.fresh hle)

/-! ### a dict with tuple keys that the walked expression hands back: locked from here on -/
def iKeysNew (td : TE) : TI := fun σ H R => td σ H fun x H1 => ∃ d kvs, x = .ref d ∧ H1 d = some (.dT kvs) ∧ ∀ o, R (Itkt d o kvs) (upd H1 d (.frz o (.dT kvs)))
theorem pi_keysNew {X : Cx} {tg e : Expr} {td : TE} (he : PE X e td) : PI X tg e (iKeysNew td) := by
  refine ⟨fun pins s σ H R I h => ?_⟩
  refine thn (he.run pins s σ H _ I h) fun u s1 ⟨x, H1, I1, rx, d, kvs, ex, hd, q⟩ => ?_
  subst ex
  obtain rfl : u = Value.ref d := rx
  obtain ⟨od, I2⟩ := I1.lock hd trivial
  obtain ⟨hs, hgd, hx, es, ep, hdt, hsz, ent⟩ := I2.frzT upd_same
  refine iter_keys hs hgd hx hdt (pi_one (tk := s1.toks) I2 _ (turn_keysT _ hdt) ⟨_, Heap.get?_push_size _ rfl, rfl, ?_⟩ (q od))
  rw [hsz] <;> rfl
end K15
end
section
set_option maxRecDepth 100000
set_option maxHeartbeats 4000000
namespace K15
open PySem PySem.Spec PyProof.Rows L2
/-! ### the text by places -/
def top (i : Nat) : Stmt := PySem.Challenge.pw_foretoldforms_k15_whole_ways_between.main.body.getD i (.Pass ⟨0, 0, 0, 0⟩)
abbrev s_is_integer : Stmt := top 8
abbrev N_is_integer : List Str := ["thing"]
theorem sc_is_integer : FnScope N_is_integer ["thing"] (defScope s_is_integer) := ⟨rfl, rfl, rfl, by decide +kernel, rfl, by decide +kernel, by decide +kernel⟩
abbrev s_is_within : Stmt := top 9
abbrev N_is_within : List Str := ["thing", "least", "most"]
theorem sc_is_within : FnScope N_is_within ["thing", "least", "most"] (defScope s_is_within) := ⟨rfl, rfl, rfl, by decide +kernel, rfl, by decide +kernel, by decide +kernel⟩
abbrev s_is_pair : Stmt := top 10
abbrev N_is_pair : List Str := ["thing"]
theorem sc_is_pair : FnScope N_is_pair ["thing"] (defScope s_is_pair) := ⟨rfl, rfl, rfl, by decide +kernel, rfl, by decide +kernel, by decide +kernel⟩
abbrev s_is_word : Stmt := top 11
abbrev N_is_word : List Str := ["letters", "thing", "sign"]
theorem sc_is_word : FnScope N_is_word ["letters", "thing"] (defScope s_is_word) := ⟨rfl, rfl, rfl, by decide +kernel, rfl, by decide +kernel, by decide +kernel⟩
abbrev s_is_text : Stmt := top 12
abbrev N_is_text : List Str := ["thing"]
theorem sc_is_text : FnScope N_is_text ["thing"] (defScope s_is_text) := ⟨rfl, rfl, rfl, by decide +kernel, rfl, by decide +kernel, by decide +kernel⟩
abbrev s_is_form : Stmt := top 13
abbrev N_is_form : List Str := ["thing", "most"]
theorem sc_is_form : FnScope N_is_form ["thing", "most"] (defScope s_is_form) := ⟨rfl, rfl, rfl, by decide +kernel, rfl, by decide +kernel, by decide +kernel⟩
abbrev s_strike : Stmt := top 15
abbrev N_strike : List Str := ["row", "found", "sign"]
theorem sc_strike : FnScope N_strike ["row"] (defScope s_strike) := ⟨rfl, rfl, rfl, by decide +kernel, rfl, by decide +kernel, by decide +kernel⟩
abbrev s_inverse : Stmt := top 16
abbrev N_inverse : List Str := ["row"]
theorem sc_inverse : FnScope N_inverse ["row"] (defScope s_inverse) := ⟨rfl, rfl, rfl, by decide +kernel, rfl, by decide +kernel, by decide +kernel⟩
abbrev s_product : Stmt := top 17
abbrev N_product : List Str := ["rows"]
theorem sc_product : FnScope N_product ["rows"] (defScope s_product) := ⟨rfl, rfl, rfl, by decide +kernel, rfl, by decide +kernel, by decide +kernel⟩
abbrev s_is_row : Stmt := top 21
abbrev N_is_row : List Str := ["thing"]
theorem sc_is_row : FnScope N_is_row ["thing"] (defScope s_is_row) := ⟨rfl, rfl, rfl, by decide +kernel, rfl, by decide +kernel, by decide +kernel⟩
abbrev s_is_box_text : Stmt := top 22
abbrev N_is_box_text : List Str := ["thing"]
theorem sc_is_box_text : FnScope N_is_box_text ["thing"] (defScope s_is_box_text) := ⟨rfl, rfl, rfl, by decide +kernel, rfl, by decide +kernel, by decide +kernel⟩
abbrev s_t_init : Stmt := inClass (top 23) 0
abbrev N_t_init : List Str := ["self", "boxes", "at", "row", "column", "thing"]
theorem sc_t_init : FnScope N_t_init ["self", "boxes"] (defScope s_t_init) := ⟨rfl, rfl, rfl, by decide +kernel, rfl, by decide +kernel, by decide +kernel⟩
abbrev s_t_keep : Stmt := inClass (top 23) 1
abbrev N_t_keep : List Str := ["self", "boxes", "row", "forms", "column", "form"]
theorem sc_t_keep : FnScope N_t_keep ["self", "boxes"] (defScope s_t_keep) := ⟨rfl, rfl, rfl, by decide +kernel, rfl, by decide +kernel, by decide +kernel⟩
abbrev s_is_box : Stmt := top 24
abbrev N_is_box : List Str := ["table", "thing"]
theorem sc_is_box : FnScope N_is_box ["table", "thing"] (defScope s_is_box) := ⟨rfl, rfl, rfl, by decide +kernel, rfl, by decide +kernel, by decide +kernel⟩
abbrev s_spread_from : Stmt := top 26
abbrev N_spread_from : List Str := ["table", "row", "rows", "columns", "waiting", "done", "kind", "here", "box"]
theorem sc_spread_from : FnScope N_spread_from ["table", "row"] (defScope s_spread_from) := ⟨rfl, rfl, rfl, by decide +kernel, rfl, by decide +kernel, by decide +kernel⟩
abbrev s_check_place : Stmt := top 27
abbrev N_check_place : List Str := ["table", "row", "column"]
theorem sc_check_place : FnScope N_check_place ["table", "row", "column"] (defScope s_check_place) := ⟨rfl, rfl, rfl, by decide +kernel, rfl, by decide +kernel, by decide +kernel⟩
abbrev s_boxes_back : Stmt := top 28
abbrev N_boxes_back : List Str := ["rows", "columns", "kind", "here", "found", "box"]
theorem sc_boxes_back : FnScope N_boxes_back ["rows", "columns", "kind", "here"] (defScope s_boxes_back) := ⟨rfl, rfl, rfl, by decide +kernel, rfl, by decide +kernel, by decide +kernel⟩
abbrev s_way_in : Stmt := top 29
abbrev N_way_in : List Str := ["table", "row", "column", "rows", "columns"]
theorem sc_way_in : FnScope N_way_in ["table", "row", "column"] (defScope s_way_in) := ⟨rfl, rfl, rfl, by decide +kernel, rfl, by decide +kernel, by decide +kernel⟩
abbrev s_way_between : Stmt := top 30
abbrev N_way_between : List Str := ["table", "row", "column"]
theorem sc_way_between : FnScope N_way_between ["table", "row", "column"] (defScope s_way_between) := ⟨rfl, rfl, rfl, by decide +kernel, rfl, by decide +kernel, by decide +kernel⟩
abbrev s_are_steps : Stmt := top 31
abbrev N_are_steps : List Str := ["table", "thing", "at", "one", "other", "box"]
theorem sc_are_steps : FnScope N_are_steps ["table", "thing"] (defScope s_are_steps) := ⟨rfl, rfl, rfl, by decide +kernel, rfl, by decide +kernel, by decide +kernel⟩
abbrev s_is_some_way : Stmt := top 32
abbrev N_is_some_way : List Str := ["table", "thing"]
theorem sc_is_some_way : FnScope N_is_some_way ["table", "thing"] (defScope s_is_some_way) := ⟨rfl, rfl, rfl, by decide +kernel, rfl, by decide +kernel, by decide +kernel⟩
abbrev s_is_way : Stmt := top 33
abbrev N_is_way : List Str := ["table", "row", "column", "thing"]
theorem sc_is_way : FnScope N_is_way ["table", "row", "column", "thing"] (defScope s_is_way) := ⟨rfl, rfl, rfl, by decide +kernel, rfl, by decide +kernel, by decide +kernel⟩
abbrev s_told_by : Stmt := top 34
abbrev N_told_by : List Str := ["table", "boxes", "forms", "box", "at", "form"]
theorem sc_told_by : FnScope N_told_by ["table", "boxes"] (defScope s_told_by) := ⟨rfl, rfl, rfl, by decide +kernel, rfl, by decide +kernel, by decide +kernel⟩
abbrev s_by_way : Stmt := top 35
abbrev N_by_way : List Str := ["table", "way"]
theorem sc_by_way : FnScope N_by_way ["table", "way"] (defScope s_by_way) := ⟨rfl, rfl, rfl, by decide +kernel, rfl, by decide +kernel, by decide +kernel⟩
abbrev s_law_pool : Stmt := top 37
abbrev N_law_pool : List Str := ["_law_script", "_law_seed", "_law_cell"]
theorem sc_law_pool : FnScope N_law_pool ["_law_script"] (defScope s_law_pool) := ⟨rfl, rfl, rfl, by decide +kernel, rfl, by decide +kernel, by decide +kernel⟩
abbrev s_law_draw : Stmt := top 38
abbrev N_law_draw : List Str := ["_law_pool_here", "_law_many", "_law_cells", "_law_digit", "_law_mixed"]
theorem sc_law_draw : FnScope N_law_draw ["_law_pool_here", "_law_many"] (defScope s_law_draw) := ⟨rfl, rfl, rfl, by decide +kernel, rfl, by decide +kernel, by decide +kernel⟩
abbrev s_law_flag : Stmt := top 39
abbrev N_law_flag : List Str := ["_law_told_here", "_law_due"]
theorem sc_law_flag : FnScope N_law_flag ["_law_told_here", "_law_due"] (defScope s_law_flag) := ⟨rfl, rfl, rfl, by decide +kernel, rfl, by decide +kernel, by decide +kernel⟩
abbrev s_law_form : Stmt := top 40
abbrev N_law_form : List Str := ["_law_pool_here", "_law_most", "_law_k"]
theorem sc_law_form : FnScope N_law_form ["_law_pool_here", "_law_most"] (defScope s_law_form) := ⟨rfl, rfl, rfl, by decide +kernel, rfl, by decide +kernel, by decide +kernel⟩
abbrev s_law_holes : Stmt := top 41
abbrev N_law_holes : List Str := ["_law_pool_here", "_law_boxes_here", "_law_chance", "_law_row", "_law_box"]
theorem sc_law_holes : FnScope N_law_holes ["_law_pool_here", "_law_boxes_here"] (defScope s_law_holes) := ⟨rfl, rfl, rfl, by decide +kernel, rfl, by decide +kernel, by decide +kernel⟩
abbrev s_law_size : Stmt := top 42
abbrev N_law_size : List Str := ["_law_pool_here", "_law_most"]
theorem sc_law_size : FnScope N_law_size ["_law_pool_here", "_law_most"] (defScope s_law_size) := ⟨rfl, rfl, rfl, by decide +kernel, rfl, by decide +kernel, by decide +kernel⟩
abbrev s_law_made : Stmt := top 43
abbrev N_law_made : List Str := ["_law_pool_here", "_law_most", "_law_letters", "_law_stems", "_law_endings", "_law_k", "_law_stem", "_law_ending"]
theorem sc_law_made : FnScope N_law_made ["_law_pool_here", "_law_most", "_law_letters"] (defScope s_law_made) := ⟨rfl, rfl, rfl, by decide +kernel, rfl, by decide +kernel, by decide +kernel⟩
abbrev s_law_boxes : Stmt := top 44
abbrev N_law_boxes : List Str := ["_law_pool_here", "_law_most", "_law_kind", "_law_boxes_here", "_law_row", "_law_spot", "_law_height", "_law_width", "_law_column"]
theorem sc_law_boxes : FnScope N_law_boxes ["_law_pool_here", "_law_most"] (defScope s_law_boxes) := ⟨rfl, rfl, rfl, by decide +kernel, rfl, by decide +kernel, by decide +kernel⟩
abbrev s_law_owing : Stmt := top 45
abbrev N_law_owing : List Str := ["_law_pool_here", "_law_most", "_law_stems", "_law_endings", "_law_whole", "_law_k", "_law_stem", "_law_ending", "_law_row", "_law_form_here"]
theorem sc_law_owing : FnScope N_law_owing ["_law_pool_here", "_law_most"] (defScope s_law_owing) := ⟨rfl, rfl, rfl, by decide +kernel, rfl, by decide +kernel, by decide +kernel⟩
abbrev s_law_signed : Stmt := top 46
abbrev N_law_signed : List Str := ["_law_pool_here", "_law_k"]
theorem sc_law_signed : FnScope N_law_signed ["_law_pool_here"] (defScope s_law_signed) := ⟨rfl, rfl, rfl, by decide +kernel, rfl, by decide +kernel, by decide +kernel⟩
abbrev s_law_struck : Stmt := top 47
abbrev N_law_struck : List Str := ["_law_row", "_law_left", "_law_sign"]
theorem sc_law_struck : FnScope N_law_struck ["_law_row"] (defScope s_law_struck) := ⟨rfl, rfl, rfl, by decide +kernel, rfl, by decide +kernel, by decide +kernel⟩
abbrev s_law_undone : Stmt := top 48
abbrev N_law_undone : List Str := ["_law_row", "_law_sign"]
theorem sc_law_undone : FnScope N_law_undone ["_law_row"] (defScope s_law_undone) := ⟨rfl, rfl, rfl, by decide +kernel, rfl, by decide +kernel, by decide +kernel⟩
abbrev s_law_told : Stmt := top 49
abbrev N_law_told : List Str := ["_law_boxes_here", "_law_found", "_law_row", "_law_column"]
theorem sc_law_told : FnScope N_law_told ["_law_boxes_here"] (defScope s_law_told) := ⟨rfl, rfl, rfl, by decide +kernel, rfl, by decide +kernel, by decide +kernel⟩
abbrev s_law_tells : Stmt := top 50
abbrev N_law_tells : List Str := ["_law_boxes_here", "_law_way", "_law_found", "_law_at", "_law_form_here"]
theorem sc_law_tells : FnScope N_law_tells ["_law_boxes_here", "_law_way"] (defScope s_law_tells) := ⟨rfl, rfl, rfl, by decide +kernel, rfl, by decide +kernel, by decide +kernel⟩
abbrev s_law_is_box : Stmt := top 51
abbrev N_law_is_box : List Str := ["_law_boxes_here", "_law_thing", "_law_number"]
theorem sc_law_is_box : FnScope N_law_is_box ["_law_boxes_here", "_law_thing"] (defScope s_law_is_box) := ⟨rfl, rfl, rfl, by decide +kernel, rfl, by decide +kernel, by decide +kernel⟩
abbrev s_law_goes : Stmt := top 52
abbrev N_law_goes : List Str := ["_law_boxes_here", "_law_thing", "_law_at", "_law_same", "_law_box"]
theorem sc_law_goes : FnScope N_law_goes ["_law_boxes_here", "_law_thing"] (defScope s_law_goes) := ⟨rfl, rfl, rfl, by decide +kernel, rfl, by decide +kernel, by decide +kernel⟩
abbrev s_law_is_way : Stmt := top 53
abbrev N_law_is_way : List Str := ["_law_boxes_here", "_law_row", "_law_column", "_law_thing"]
theorem sc_law_is_way : FnScope N_law_is_way ["_law_boxes_here", "_law_row", "_law_column", "_law_thing"] (defScope s_law_is_way) := ⟨rfl, rfl, rfl, by decide +kernel, rfl, by decide +kernel, by decide +kernel⟩
abbrev s_law_far : Stmt := top 54
abbrev N_law_far : List Str := ["_law_boxes_here", "_law_row", "_law_rows", "_law_columns", "_law_turn", "_law_one", "_law_other"]
theorem sc_law_far : FnScope N_law_far ["_law_boxes_here", "_law_row"] (defScope s_law_far) := ⟨rfl, rfl, rfl, by decide +kernel, rfl, by decide +kernel, by decide +kernel⟩
abbrev s_law_walk : Stmt := top 55
abbrev N_law_walk : List Str := ["_law_pool_here", "_law_boxes_here", "_law_row", "_law_many", "_law_told_here", "_law_found", "_law_going", "_law_turn", "_law_same", "_law_box"]
theorem sc_law_walk : FnScope N_law_walk ["_law_pool_here", "_law_boxes_here", "_law_row", "_law_many"] (defScope s_law_walk) := ⟨rfl, rfl, rfl, by decide +kernel, rfl, by decide +kernel, by decide +kernel⟩
abbrev s_law_right : Stmt := top 56
abbrev N_law_right : List Str := ["_law_boxes_here", "_law_table", "_law_row", "_law_column", "_law_columns", "_law_told_here"]
theorem sc_law_right : FnScope N_law_right ["_law_boxes_here", "_law_table", "_law_row", "_law_column", "_law_columns"] (defScope s_law_right) := ⟨rfl, rfl, rfl, by decide +kernel, rfl, by decide +kernel, by decide +kernel⟩
abbrev s_law : Stmt := top 57
abbrev N_law : List Str := ["_law_script", "_law_pool_here", "_law_boxes_here", "_law_table", "_law_row", "_law_columns", "_law_column", "_law_turn", "_law_way"]
theorem sc_law : FnScope N_law ["_law_script"] (defScope s_law) := ⟨rfl, rfl, rfl, by decide +kernel, rfl, by decide +kernel, by decide +kernel⟩
/-! ### a def, a method, a class as they stand behind the top -/
structure DefAt (K : PySem.W.Frag) (mg : Str → Option Value) (x : Str) (st : Stmt) (ps : List Str) : Prop where
  ex : ∃ (f : Addr) (fd : FuncData), Fun K x x st f fd ∧ mg x = some (.ref f) ∧ Binds K fd ps []
structure MethAt (K : PySem.W.Frag) (C : Addr) (m qual : Str) (st : Stmt) (ps : List Str) : Prop where
  ex : ∃ (f : Addr) (fd : FuncData), Fun K m qual st f fd ∧ Meth K C m f ∧ Binds K fd ps []
structure Cal (P : Program) (w : World) (K : PySem.W.Frag) (mg : Str → Option Value) (base : Heap) (k : Nat) (x : Str) (sp : Sp) : Prop where
  ex : ∃ (f : Addr) (fd : FuncData) (ps : List Str), FnOk P w K mg base CX0 k f fd ps sp ∧ mg x = some (.ref f) ∧ PySem.W.keepIn K (.ref f) = true ∧ Binds K fd ps []
structure Met (P : Program) (w : World) (K : PySem.W.Frag) (mg : Str → Option Value) (base : Heap) (k : Nat) (C : Addr) (m : Str) (sp : Sp) : Prop where
  ex : ∃ (f : Addr) (fd : FuncData) (ps : List Str), Cls K C ∧ Meth K C m f ∧ FnOk P w K mg base CX0 k f fd ps sp ∧ Binds K fd ps []
structure Mak (P : Program) (w : World) (K : PySem.W.Frag) (mg : Str → Option Value) (base : Heap) (k : Nat) (x : Str) (C : Addr) (sp : Sp) : Prop where
  ex : ∃ (f : Addr) (fd : FuncData) (ps : List Str), Mk K C f ∧ FnOk P w K mg base CX0 k f fd ps sp ∧ mg x = some (.ref C) ∧ Binds K fd ps []
section
variable {P : Program} {w : World} {K : PySem.W.Frag} {mg : Str → Option Value} {base : Heap}
theorem cal_of {x : Str} {st : Stmt} {N ps : List Str} {k : Nat} {sp : Sp} (D : DefAt K mg x st ps) (S : FnScope N ps (defScope st)) (len : ∀ vs H Q E, sp vs H Q E → vs.length = ps.length)
    (hbody : ∀ (f : Addr) (cdv : Value) (A : Around) (outer : List Env) (s : Shared) (H : Hp) (vs : List V) (Q : VK) (E : XK), Room k (A.deeper (envOfC x (defScope st) s.heap.objs.size f cdv)) → sp vs H Q E →
      ∃ t, PSs (cxOf CX0 P w K mg base N x (defScope st) f cdv A outer s H E).nox (defBody st) t ∧ t { nx := fun _ H' => Q .non H', rt := Q } (start N vs) H) : Cal P w K mg base (k + 1) x sp := by
  obtain ⟨f, fd, F, hm, b⟩ := D.ex
  exact ⟨f, fd, ps, F.ok S len (hbody f), hm, F.kp, b⟩
theorem fn_of_def {x : Str} {st : Stmt} {N ps : List Str} {k : Nat} {sp : Sp} {f : Addr} {fd : FuncData} (F : Fun K x x st f fd) (S : FnScope N ps (defScope st)) (len : ∀ vs H Q E, sp vs H Q E → vs.length = ps.length)
    (hbody : ∀ (f : Addr) (cdv : Value) (A : Around) (outer : List Env) (s : Shared) (H : Hp) (vs : List V) (Q : VK) (E : XK), Room k (A.deeper (envOfC x (defScope st) s.heap.objs.size f cdv)) → sp vs H Q E →
      ∃ t, PSs (cxOf CX0 P w K mg base N x (defScope st) f cdv A outer s H E).nox (defBody st) t ∧ t { nx := fun _ H' => Q .non H', rt := Q } (start N vs) H) : FnOk P w K mg base CX0 (k + 1) f fd ps sp := F.ok S len (hbody f)
theorem met_of {m qual : Str} {C : Addr} {st : Stmt} {N ps : List Str} {k : Nat} {sp : Sp} (c : Cls K C) (D : MethAt K C m qual st ps) (S : FnScope N ps (defScope st)) (len : ∀ vs H Q E, sp vs H Q E → vs.length = ps.length)
    (hbody : ∀ (f : Addr) (cdv : Value) (A : Around) (outer : List Env) (s : Shared) (H : Hp) (vs : List V) (Q : VK) (E : XK), Room k (A.deeper (envOfC qual (defScope st) s.heap.objs.size f cdv)) → sp vs H Q E →
      ∃ t, PSs (cxOf CX0 P w K mg base N qual (defScope st) f cdv A outer s H E).nox (defBody st) t ∧ t { nx := fun _ H' => Q .non H', rt := Q } (start N vs) H) : Met P w K mg base (k + 1) C m sp := by
  obtain ⟨f, fd, F, hm, b⟩ := D.ex
  exact ⟨f, fd, ps, c, hm, F.ok S len (hbody f), b⟩
theorem mak_of {x qual : Str} {C : Addr} {st : Stmt} {N ps : List Str} {k : Nat} {sp : Sp} (hx : mg x = some (.ref C)) (m1 : PySem.W.makesIn K C = true) (m2 : PySem.W.keepIn K (.ref C) = true) (D : MethAt K C "__init__" qual st ps) (S : FnScope N ps (defScope st)) (len : ∀ vs H Q E, sp vs H Q E → vs.length = ps.length)
    (hbody : ∀ (f : Addr) (cdv : Value) (A : Around) (outer : List Env) (s : Shared) (H : Hp) (vs : List V) (Q : VK) (E : XK), Room k (A.deeper (envOfC qual (defScope st) s.heap.objs.size f cdv)) → sp vs H Q E →
      ∃ t, PSs (cxOf CX0 P w K mg base N qual (defScope st) f cdv A outer s H E).nox (defBody st) t ∧ t { nx := fun _ H' => Q .non H', rt := Q } (start N vs) H) : Mak P w K mg base (k + 1) x C sp := by
  obtain ⟨f, fd, F, hm, b⟩ := D.ex
  exact ⟨f, fd, ps, ⟨m1, hm.at_, hm.fn, m2⟩, F.ok S len (hbody f), hx, b⟩
end
section
variable {X : Cx} {k j : Nat} {C : Addr} {x m : Str} {sp : Sp} {p pos apos : Pos} {e o : Expr} {es : List Expr} {ta : TE} {t : TA}
theorem pe_c (c : Cal X.prog X.w X.K X.mg X.base k x sp) (hr : Room j X.A) (hk : k ≤ j) (hg : Gl X x) (ha : PA X (e :: es) t)
    (hdb : (x == ("__debug__" : Str)) = false := by decide) (he : starEach (e :: es) X.env = (false, eval e X.env) :: starEach es X.env := by rfl) (hpl : (backTo pos (starEach es X.env)).any (·.1) = false := by rfl) :
    PE X (.Call (.Name x p) (e :: es) [] pos) (tCall sp [] E0 t) := by
  obtain ⟨f, fd, ps, F, hm, kp, b⟩ := c.ex
  exact pe_call F (hr.mono hk) hg hm kp b .nil pass0 ha hdb he hpl
theorem pe_mk (c : Mak X.prog X.w X.K X.mg X.base k x C sp) (hr : Room j X.A) (hk : k + 1 ≤ j) (hg : Gl X x) (ha : PA X (e :: es) t)
    (hdb : (x == ("__debug__" : Str)) = false := by decide) (he : starEach (e :: es) X.env = (false, eval e X.env) :: starEach es X.env := by rfl) (hpl : (backTo pos (starEach es X.env)).any (·.1) = false := by rfl) :
    PE X (.Call (.Name x p) (e :: es) [] pos) (tMake C sp [] E0 t) := by
  obtain ⟨f, fd, ps, M, F, hm, b⟩ := c.ex
  exact pe_make M F (hr.mono hk) hg hm b .nil pass0 ha hdb he hpl
theorem pe_mt {pl : Sem Bool} (c : Met X.prog X.w X.K X.mg X.base k C m sp) (hr : Room j X.A) (hk : k ≤ j) (he : PE X o ta) (ha : PA X (e :: es) t)
    (hst : starEach (e :: es) X.env = (false, eval e X.env) :: starEach es X.env := by rfl) (hpl : (backTo pos (starEach es X.env)).any (·.1) = false := by rfl)
    (ht : eval (.Call (.Attribute o m apos) (e :: es) [] pos) X.env = (do
      let ov ← eval o X.env
      standAt apos.atName
      let (f, first) ← holding [ov] (getMethod ov m pl)
      callWith pos f first (backTo pos (starEach (e :: es) X.env)) (backToKw pos (keywordEach [] X.env))) := by rfl) :
    PE X (.Call (.Attribute o m apos) (e :: es) [] pos) (tMeth C m sp [] E0 ta t) := by
  obtain ⟨f, fd, ps, hc, hm, F, b⟩ := c.ex
  exact pe_meth (pl := pl) he hc hm F (hr.mono hk) b .nil pass0 ha hst hpl ht
/-- a built-in type as a value; a constant of the top -/
theorem pe_ty (n : String) (hg : Gl X x) (hm : X.mg x = none) (hv : bootBuiltins x = some (.type n)) (hn : x ≠ "__name__" := by decide) (hd : (x == ("__debug__" : Str)) = false := by decide) : PE X (.Name x pos) (tC (.ty n)) := pe_bltn hg hm hv rfl hn hd
theorem pe_gs {z : Str} (hg : Gl X x) (hm : ∃ tk : Tok, X.mg x = some (.str z tk)) (hd : (x == ("__debug__" : Str)) = false := by decide) : PE X (.Name x pos) (tC (.str z)) := let ⟨tk, h⟩ := hm; pe_glob hg h ⟨tk, rfl⟩ hd
theorem pe_gi {z : Int} (hg : Gl X x) (hm : ∃ tk : Tok, X.mg x = some (.int z tk)) (hd : (x == ("__debug__" : Str)) = false := by decide) : PE X (.Name x pos) (tC (.int z)) := let ⟨tk, h⟩ := hm; pe_glob hg h ⟨tk, rfl⟩ hd
/-- a comprehension within a comprehension -/
theorem blkOk_in {N : List Str} {sc outer scope : Scope} {own : List (Str × Nat)} {cl : List (Str × Addr)} {C : Addr} {env : Env} (h : blkC N (relS outer sc) scope own = true) (he : env.scope = sc := by rfl) (hk : env.scope.kind = .function := by rfl) :
    BlkOk N (compEnvC outer cl C env).scope scope own := by
  subst he
  exact blkOk_by h
end
/-! ### what the walk asks of the top -/
structure Txt (K : PySem.W.Frag) (mg : Str → Option Value) (C : Addr) : Prop where
  d_is_integer : DefAt K mg "is_integer" s_is_integer ["thing"]
  d_is_within : DefAt K mg "is_within" s_is_within ["thing", "least", "most"]
  d_is_pair : DefAt K mg "is_pair" s_is_pair ["thing"]
  d_is_word : DefAt K mg "is_word" s_is_word ["letters", "thing"]
  d_is_text : DefAt K mg "is_text" s_is_text ["thing"]
  d_is_form : DefAt K mg "is_form" s_is_form ["thing", "most"]
  d_strike : DefAt K mg "strike" s_strike ["row"]
  d_inverse : DefAt K mg "inverse" s_inverse ["row"]
  d_product : DefAt K mg "product" s_product ["rows"]
  d_is_row : DefAt K mg "is_row" s_is_row ["thing"]
  d_is_box_text : DefAt K mg "is_box_text" s_is_box_text ["thing"]
  d_is_box : DefAt K mg "is_box" s_is_box ["table", "thing"]
  d_spread_from : DefAt K mg "spread_from" s_spread_from ["table", "row"]
  d_check_place : DefAt K mg "check_place" s_check_place ["table", "row", "column"]
  d_boxes_back : DefAt K mg "boxes_back" s_boxes_back ["rows", "columns", "kind", "here"]
  d_way_in : DefAt K mg "way_in" s_way_in ["table", "row", "column"]
  d_way_between : DefAt K mg "way_between" s_way_between ["table", "row", "column"]
  d_are_steps : DefAt K mg "are_steps" s_are_steps ["table", "thing"]
  d_is_some_way : DefAt K mg "is_some_way" s_is_some_way ["table", "thing"]
  d_is_way : DefAt K mg "is_way" s_is_way ["table", "row", "column", "thing"]
  d_told_by : DefAt K mg "told_by" s_told_by ["table", "boxes"]
  d_by_way : DefAt K mg "by_way" s_by_way ["table", "way"]
  d_law_pool : DefAt K mg "_law_pool" s_law_pool ["_law_script"]
  d_law_draw : DefAt K mg "_law_draw" s_law_draw ["_law_pool_here", "_law_many"]
  d_law_flag : DefAt K mg "_law_flag" s_law_flag ["_law_told_here", "_law_due"]
  d_law_form : DefAt K mg "_law_form" s_law_form ["_law_pool_here", "_law_most"]
  d_law_holes : DefAt K mg "_law_holes" s_law_holes ["_law_pool_here", "_law_boxes_here"]
  d_law_size : DefAt K mg "_law_size" s_law_size ["_law_pool_here", "_law_most"]
  d_law_made : DefAt K mg "_law_made" s_law_made ["_law_pool_here", "_law_most", "_law_letters"]
  d_law_boxes : DefAt K mg "_law_boxes" s_law_boxes ["_law_pool_here", "_law_most"]
  d_law_owing : DefAt K mg "_law_owing" s_law_owing ["_law_pool_here", "_law_most"]
  d_law_signed : DefAt K mg "_law_signed" s_law_signed ["_law_pool_here"]
  d_law_struck : DefAt K mg "_law_struck" s_law_struck ["_law_row"]
  d_law_undone : DefAt K mg "_law_undone" s_law_undone ["_law_row"]
  d_law_told : DefAt K mg "_law_told" s_law_told ["_law_boxes_here"]
  d_law_tells : DefAt K mg "_law_tells" s_law_tells ["_law_boxes_here", "_law_way"]
  d_law_is_box : DefAt K mg "_law_is_box" s_law_is_box ["_law_boxes_here", "_law_thing"]
  d_law_goes : DefAt K mg "_law_goes" s_law_goes ["_law_boxes_here", "_law_thing"]
  d_law_is_way : DefAt K mg "_law_is_way" s_law_is_way ["_law_boxes_here", "_law_row", "_law_column", "_law_thing"]
  d_law_far : DefAt K mg "_law_far" s_law_far ["_law_boxes_here", "_law_row"]
  d_law_walk : DefAt K mg "_law_walk" s_law_walk ["_law_pool_here", "_law_boxes_here", "_law_row", "_law_many"]
  d_law_right : DefAt K mg "_law_right" s_law_right ["_law_boxes_here", "_law_table", "_law_row", "_law_column", "_law_columns"]
  d_law : DefAt K mg "law" s_law ["_law_script"]
  i_Table : MethAt K C "__init__" "Table.__init__" s_t_init ["self", "boxes"]
  k_Table : MethAt K C "keep" "Table.keep" s_t_keep ["self", "boxes"]
  cl : Cls K C
  nB : NoAttr K C "boxes"
  nH : NoAttr K C "height"
  nW : NoAttr K C "width"
  nT : NoAttr K C "kept_told"
  mgC : mg "Table" = some (.ref C)
  mks : PySem.W.makesIn K C = true
  kc : PySem.W.keepIn K (.ref C) = true
  c_LETTERS : ∃ tk : Tok, mg "LETTERS" = some (.str "abcdefghijklmnopqrstuvwxyz" tk)
  c_MOST_ROWS : ∃ tk : Tok, mg "MOST_ROWS" = some (.int 12 tk)
  c_MOST_LETTERS : ∃ tk : Tok, mg "MOST_LETTERS" = some (.int 30 tk)
  b_len : mg "len" = none
  b_isinstance : mg "isinstance" = none
  b_all : mg "all" = none
  b_sum : mg "sum" = none
  b_abs : mg "abs" = none
  b_max : mg "max" = none
  b_int : mg "int" = none
  b_bool : mg "bool" = none
  b_str : mg "str" = none
  b_tuple : mg "tuple" = none
  b_list : mg "list" = none
  b_range : mg "range" = none
  b_enumerate : mg "enumerate" = none
  b_zip : mg "zip" = none
end K15
end
section
set_option maxRecDepth 100000
set_option maxHeartbeats 4000000
namespace K15
open PySem PySem.Spec PyProof.Rows L2
/-! ### what stands in the heap -/
abbrev S (l : List Nat) : Str := ⟨l.toArray⟩
theorem S_tl (z : Str) : S z.cps.toList = z := rfl
theorem S_len (l : List Nat) : (S l).length = l.length := by simp [S, Str.length]
theorem S_cat (a b : List Nat) : S a ++ S b = S (a ++ b) := TL.ext_tl (TL.tl_append (S a) (S b))
def optV : Option Str → V
  | none => .non
  | some z => .str z
def tupB (b : Bx) : HO := .tup [.int (b.1 : Int), .int (b.2 : Int)]
def GoodF (z : Str) : Prop := z.length ≤ 30 ∧ ∀ c ∈ z.cps.toList, c = 97 ∨ c = 98
abbrev Bxs := List (List (Option Str))
def boxAt (bx : Bxs) (b : Bx) : Option Str := (bx.getD b.1 []).getD b.2 none
structure GoodB (bx : Bxs) (w : Nat) : Prop where
  h1 : 1 ≤ bx.length
  h2 : bx.length ≤ 12
  w1 : 1 ≤ w
  w2 : w ≤ 12
  rows : ∀ row ∈ bx, row.length = w
  forms : ∀ row ∈ bx, ∀ z, some z ∈ row → GoodF z
/-- a list (tuple) of the objects at rs -/
def RowsAt (H : Hp) (rs : List Addr) (mk : List V → HO) (bx : Bxs) : Prop := rs.length = bx.length ∧ ∀ (i : Nat) (r : Addr) (row : List (Option Str)), rs[i]? = some r → bx[i]? = some row → H r = some (mk (row.map optV))
def TabAt (H : Hp) (a : Addr) (bx : Bxs) : Prop := ∃ rs : List Addr, H a = some (.tup (rs.map V.ref)) ∧ RowsAt H rs .tup bx
def LisAt (H : Hp) (a : Addr) (bx : Bxs) : Prop := ∃ rs : List Addr, H a = some (.lst (rs.map V.ref)) ∧ RowsAt H rs .lst bx
theorem RowsAt.same {H H' : Hp} {rs : List Addr} {mk : List V → HO} {bx : Bxs} (h : RowsAt H rs mk bx) (s : Same H H') : RowsAt H' rs mk bx := ⟨h.1, fun i r row e1 e2 => s _ _ (h.2 i r row e1 e2)⟩
theorem TabAt.same {H H' : Hp} {a : Addr} {bx : Bxs} (h : TabAt H a bx) (s : Same H H') : TabAt H' a bx := let ⟨rs, e, r⟩ := h; ⟨rs, s _ _ e, r.same s⟩

/-! ### told boxes in their order -/
def rowT (r : Nat) (row : List (Option Str)) (n : Nat) : List (Bx × Str) := (List.range n).filterMap fun c => (row.getD c none).map fun z => ((r, c), z)
def tabT (bx : Bxs) (n : Nat) : List (Bx × Str) := (List.range n).flatMap fun r => rowT r (bx.getD r []) (bx.getD r []).length
def told (bx : Bxs) : List (Bx × Str) := tabT bx bx.length
def keys (bx : Bxs) : List Bx := (told bx).map (·.1)
def keyK (b : Bx) : List Key := [Sum.inl (b.1 : Int), Sum.inl (b.2 : Int)]
def toldKV (l : List (Bx × Str)) : List (List Key × V) := l.map fun e => (keyK e.1, V.str e.2)
theorem rowT_succ (r : Nat) (row : List (Option Str)) (n : Nat) : rowT r row (n + 1) = rowT r row n ++ (match row.getD n none with | none => [] | some z => [((r, n), z)]) := by
  unfold rowT
  rw [List.range_succ, List.filterMap_append]
  congr 1
  rw [List.filterMap_cons]
  cases h : row.getD n none <;> rfl
theorem tabT_succ (bx : Bxs) (n : Nat) : tabT bx (n + 1) = tabT bx n ++ rowT n (bx.getD n []) (bx.getD n []).length := by
  unfold tabT
  rw [List.range_succ, List.flatMap_append]
  simp
theorem mem_rowT {r : Nat} {row : List (Option Str)} {n : Nat} {e : Bx × Str} : e ∈ rowT r row n ↔ e.1.1 = r ∧ e.1.2 < n ∧ row.getD e.1.2 none = some e.2 := by
  unfold rowT
  rw [List.mem_filterMap]
  constructor
  · rintro ⟨c, hc, h⟩
    rw [List.mem_range] at hc
    cases hz : row.getD c none with
    | none => rw [hz] at h; cases h
    | some z =>
      rw [hz] at h
      cases h
      exact ⟨rfl, hc, hz⟩
  · rintro ⟨h1, h2, h3⟩
    obtain ⟨⟨r', c⟩, z⟩ := e
    simp only at h1 h2 h3
    subst h1
    exact ⟨c, List.mem_range.mpr h2, by rw [h3]; rfl⟩
theorem getD_lt {α : Type} {l : List (Option α)} {n : Nat} {z : α} (h : l.getD n none = some z) : n < l.length := by
  by_cases hn : n < l.length
  · exact hn
  · rw [List.getD_eq_getElem?_getD, List.getElem?_eq_none (by omega)] at h
    cases h
theorem mem_tabT {bx : Bxs} {n : Nat} {e : Bx × Str} : e ∈ tabT bx n ↔ e.1.1 < n ∧ boxAt bx e.1 = some e.2 := by
  unfold tabT
  rw [List.mem_flatMap]
  constructor
  · rintro ⟨r, hr, h⟩
    rw [List.mem_range] at hr
    obtain ⟨h1, h2, h3⟩ := mem_rowT.mp h
    subst h1
    exact ⟨hr, h3⟩
  · rintro ⟨h1, h2⟩
    exact ⟨e.1.1, List.mem_range.mpr h1, mem_rowT.mpr ⟨rfl, getD_lt h2, h2⟩⟩
theorem boxAt_lt {bx : Bxs} {w : Nat} (G : GoodB bx w) {b : Bx} {z : Str} (h : boxAt bx b = some z) : b.1 < bx.length ∧ b.2 < w := by
  have h2 : b.2 < (bx.getD b.1 []).length := getD_lt h
  have h1 : b.1 < bx.length := by
    by_cases hn : b.1 < bx.length
    · exact hn
    · rw [List.getD_eq_getElem?_getD, List.getElem?_eq_none (by omega)] at h2
      exact absurd h2 (Nat.not_lt_zero _)
  refine ⟨h1, ?_⟩
  rw [List.getD_eq_getElem?_getD, List.getElem?_eq_getElem h1] at h2
  have := G.rows bx[b.1] (List.getElem_mem h1)
  simp only [Option.getD_some] at h2
  omega
theorem mem_told {bx : Bxs} {e : Bx × Str} : e ∈ told bx ↔ boxAt bx e.1 = some e.2 := by
  unfold told
  rw [mem_tabT]
  constructor
  · exact fun h => h.2
  · intro h
    refine ⟨?_, h⟩
    have h2 : e.1.2 < (bx.getD e.1.1 []).length := getD_lt h
    by_cases hn : e.1.1 < bx.length
    · exact hn
    · rw [List.getD_eq_getElem?_getD, List.getElem?_eq_none (by omega)] at h2
      exact absurd h2 (Nat.not_lt_zero _)
theorem mem_keys {bx : Bxs} {b : Bx} : b ∈ keys bx ↔ ∃ z, boxAt bx b = some z := by
  unfold keys
  rw [List.mem_map]
  constructor
  · rintro ⟨e, he, rfl⟩
    exact ⟨e.2, mem_told.mp he⟩
  · rintro ⟨z, h⟩
    exact ⟨(b, z), mem_told.mpr h, rfl⟩
theorem keys_lt {bx : Bxs} {w : Nat} (G : GoodB bx w) : ∀ b ∈ keys bx, b.1 < bx.length ∧ b.2 < w := fun b hb => let ⟨_, h⟩ := mem_keys.mp hb; boxAt_lt G h
theorem keyK_inj {a b : Bx} (h : keyK a = keyK b) : a = b := by
  unfold keyK at h
  injection h with h1 h2
  injection h2 with h2 _
  have h1 := Sum.inl.inj h1
  have h2 := Sum.inl.inj h2
  exact Prod.ext (by omega) (by omega)
theorem valV_kv : ∀ (l : List (Bx × Str)) (b : Bx), valV (toldKV l) (keyK b) = (l.find? fun e => decide (e.1 = b)).map fun e => V.str e.2
  | [], b => rfl
  | e :: l, b => by
    have ih := valV_kv l b
    by_cases h : e.1 = b
    · subst h
      rw [show toldKV (e :: l) = (keyK e.1, V.str e.2) :: toldKV l from rfl, valV_pos rfl]
      simp
    · rw [show toldKV (e :: l) = (keyK e.1, V.str e.2) :: toldKV l from rfl, valV_neg (fun z => h (keyK_inj z)), ih]
      simp [h]
theorem valV_none {l : List (Bx × Str)} {b : Bx} (h : ∀ e ∈ l, e.1 ≠ b) : valV (toldKV l) (keyK b) = none := by
  rw [valV_kv, List.find?_eq_none.mpr]
  · rfl
  · intro e he
    simpa using h e he
theorem valV_told (bx : Bxs) (b : Bx) : valV (toldKV (told bx)) (keyK b) = (boxAt bx b).map V.str := by
  rw [valV_kv]
  cases h : boxAt bx b with
  | none =>
    rw [List.find?_eq_none.mpr]
    · rfl
    · intro e he
      have := mem_told.mp he
      simp only [decide_eq_true_eq]
      intro z
      rw [z, h] at this
      cases this
  | some z =>
    have hm : (b, z) ∈ told bx := mem_told.mpr h
    cases hf : (told bx).find? fun e => decide (e.1 = b) with
    | none =>
      have := List.find?_eq_none.mp hf _ hm
      simp at this
    | some e =>
      have h1 := List.find?_some hf
      have h2 := mem_told.mp (List.mem_of_find?_eq_some hf)
      simp only [decide_eq_true_eq] at h1
      rw [h1, h] at h2
      cases h2
      rfl
theorem toldKV_snoc (l : List (Bx × Str)) (b : Bx) (z : Str) (h : ∀ e ∈ l, e.1 ≠ b) : putK (toldKV l) (keyK b) (V.str z) = toldKV (l ++ [(b, z)]) := by
  rw [putK_new _ (valV_none h)]
  unfold toldKV
  rw [List.map_append]
  rfl
theorem toldKV_len (l : List (Bx × Str)) : (toldKV l).length = l.length := by simp [toldKV]
theorem rowT_len (r : Nat) (row : List (Option Str)) (n : Nat) : (rowT r row n).length ≤ n := by
  have := List.length_filterMap_le (fun c => (row.getD c none).map fun z => ((r, c), z)) (List.range n)
  simpa [rowT] using this
theorem tabT_len {bx : Bxs} {w : Nat} (G : GoodB bx w) : ∀ n, (tabT bx n).length ≤ n * 12
  | 0 => by simp [tabT]
  | n + 1 => by
    have ih := tabT_len G n
    rw [tabT_succ, List.length_append]
    have h1 := rowT_len n (bx.getD n []) (bx.getD n []).length
    have h2 : (bx.getD n []).length ≤ 12 := by
      by_cases hn : n < bx.length
      · rw [List.getD_eq_getElem?_getD, List.getElem?_eq_getElem hn]
        have := G.rows bx[n] (List.getElem_mem hn)
        have := G.w2
        simp only [Option.getD_some]
        omega
      · rw [List.getD_eq_getElem?_getD, List.getElem?_eq_none (by omega)]
        exact Nat.zero_le _
    omega
/-- the keys ahead of a box are unlike it -/
theorem part_ne {bx : Bxs} {r c : Nat} {row : List (Option Str)} : ∀ e ∈ tabT bx r ++ rowT r row c, e.1 ≠ (r, c) := by
  intro e he z
  rcases List.mem_append.mp he with h | h
  · have := (mem_tabT.mp h).1
    rw [z] at this
    exact absurd this (Nat.lt_irrefl _)
  · have := (mem_rowT.mp h).2.1
    rw [z] at this
    exact absurd this (Nat.lt_irrefl _)

/-! ### a Table as it stands -/
structure TblAt (C : Addr) (H : Hp) (p : Addr) (bx : Bxs) (w : Nat) : Prop where
  ex : ∃ (dx d : Addr) (fs : List (Str × V)), H p = some (.ins C dx fs) ∧ fs.lookup ("height" : Str) = some (V.int (bx.length : Int)) ∧ fs.lookup ("width" : Str) = some (V.int (w : Int)) ∧ fs.lookup ("kept_told" : Str) = some (V.ref d) ∧ H d = some (.dT (toldKV (told bx)))
theorem TblAt.same {C : Addr} {H H' : Hp} {p : Addr} {bx : Bxs} {w : Nat} (h : TblAt C H p bx w) (s : Same H H') : TblAt C H' p bx w := by
  obtain ⟨dx, d, fs, e1, e2, e3, e4, e5⟩ := h.ex
  exact ⟨dx, d, fs, s _ _ e1, e2, e3, e4, s _ _ e5⟩
/-- a tuple (list) of boxes -/
def WayAt (H : Hp) (as : List Addr) (p : List Bx) : Prop := as.length = p.length ∧ ∀ (i : Nat) (a : Addr) (b : Bx), as[i]? = some a → p[i]? = some b → H a = some (tupB b)
def WayT (H : Hp) (t : Addr) (p : List Bx) : Prop := ∃ as : List Addr, H t = some (.tup (as.map V.ref)) ∧ WayAt H as p
theorem WayAt.same {H H' : Hp} {as : List Addr} {p : List Bx} (h : WayAt H as p) (s : Same H H') : WayAt H' as p := ⟨h.1, fun i a b e1 e2 => s _ _ (h.2 i a b e1 e2)⟩
theorem WayT.same {H H' : Hp} {t : Addr} {p : List Bx} (h : WayT H t p) (s : Same H H') : WayT H' t p := let ⟨as, e, r⟩ := h; ⟨as, s _ _ e, r.same s⟩
theorem WayAt.nil (H : Hp) : WayAt H [] [] := ⟨rfl, fun i a b e _ => by simp at e⟩
theorem WayAt.snoc {H : Hp} {as : List Addr} {p : List Bx} {a : Addr} {b : Bx} (h : WayAt H as p) (ha : H a = some (tupB b)) : WayAt H (as ++ [a]) (p ++ [b]) := by
  refine ⟨by simp [h.1], fun i a' b' e1 e2 => ?_⟩
  by_cases hi : i < as.length
  · rw [List.getElem?_append_left hi] at e1
    rw [List.getElem?_append_left (by rw [← h.1]; exact hi)] at e2
    exact h.2 i a' b' e1 e2
  · rw [List.getElem?_append_right (by omega)] at e1
    rw [List.getElem?_append_right (by rw [← h.1]; omega), ← h.1] at e2
    have h0 : i - as.length = 0 := by
      rcases Nat.eq_zero_or_pos (i - as.length) with z | z
      · exact z
      · rw [List.getElem?_eq_none (by simp; omega)] at e1; cases e1
    rw [h0] at e1 e2
    simp at e1 e2
    subst e1 e2
    exact ha
theorem WayAt.rev {H : Hp} {as : List Addr} {p : List Bx} (h : WayAt H as p) : WayAt H as.reverse p.reverse := by
  refine ⟨by simp [h.1], fun i a b e1 e2 => ?_⟩
  have hi : i < as.reverse.length := (List.getElem?_eq_some_iff.mp e1).1
  rw [List.length_reverse] at hi
  rw [List.getElem?_reverse hi] at e1
  rw [List.getElem?_reverse (by rw [← h.1]; exact hi), ← h.1] at e2
  exact h.2 _ a b e1 e2
theorem WayAt.get {H : Hp} {as : List Addr} {p : List Bx} (h : WayAt H as p) {i : Nat} {b : Bx} (e : p[i]? = some b) : ∃ a, as[i]? = some a ∧ H a = some (tupB b) := by
  have hi : i < p.length := (List.getElem?_eq_some_iff.mp e).1
  have hi' : i < as.length := by rw [h.1]; exact hi
  exact ⟨as[i], List.getElem?_eq_getElem hi', h.2 i _ b (List.getElem?_eq_getElem hi') e⟩
/-! ### heaps -/
theorem same_upd {H : Hp} {p : Addr} {o : HO} (h : H p = none) : Same H (upd H p o) := fun b x e => by
  rw [upd_ne (ne_of_none e h)]
  exact e
theorem same_new {H H' : Hp} {p : Addr} {o : HO} (s : Same H H') (h : H' p = none) : Same H (upd H' p o) := s.trans (same_upd h)
/-- an object that H does not know may change -/
theorem same_mut {H H' : Hp} {p : Addr} {o : HO} (s : Same H H') (h : H p = none) : Same H (upd H' p o) := fun b x e => by
  rw [upd_ne (ne_of_none e h)]
  exact s _ _ e
theorem small {n : Nat} (h : n ≤ 100000) : n ≤ sizeLine := Nat.le_trans h (by decide)
theorem smallL {n : Nat} (h : n ≤ 100000) : n < sizeLine := Nat.lt_of_le_of_lt h (by decide)
theorem bl_true {p : Prop} [Decidable p] {Q : VK} {H : Hp} (hp : p) (q : Q (.bl true) H) : Q (.bl (decide p)) H := by
  rw [decide_eq_true hp]
  exact q
theorem bl_false {p : Prop} [Decidable p] {Q : VK} {H : Hp} (hp : ¬ p) (q : Q (.bl false) H) : Q (.bl (decide p)) H := by
  rw [decide_eq_false hp]
  exact q
theorem iteD {p A B : Prop} [Decidable p] (hp : p) (h : A) : if decide p = true then A else B := by
  rw [if_pos (decide_eq_true hp)]
  exact h
theorem iteND {p A B : Prop} [Decidable p] (hp : ¬ p) (h : B) : if decide p = true then A else B := by
  rw [if_neg (by simpa using hp)]
  exact h
end K15
end
section
set_option maxRecDepth 100000
set_option maxHeartbeats 4000000
namespace K15
open PySem PySem.Spec PyProof.Rows L2
/-! ### four signs -/
def Sg (c : Nat) : Prop := c = 97 ∨ c = 98 ∨ c = 65 ∨ c = 66
instance (c : Nat) : Decidable (Sg c) := inferInstanceAs (Decidable (_ ∨ _ ∨ _ ∨ _))
def AllSg (l : List Nat) : Prop := ∀ c ∈ l, Sg c
def AllAb (l : List Nat) : Prop := ∀ c ∈ l, c = 97 ∨ c = 98
theorem AllAb.sg {l : List Nat} (h : AllAb l) : AllSg l := fun c hc => (h c hc).elim .inl fun e => .inr (.inl e)
theorem Sg.lt {c : Nat} (h : Sg c) : c < 128 := by rcases h with rfl | rfl | rfl | rfl <;> decide
theorem AllSg.lt {l : List Nat} (h : AllSg l) : ∀ c ∈ l, c < 128 := fun c hc => (h c hc).lt
def swp (c : Nat) : Nat := if 65 ≤ c ∧ c ≤ 90 then c + 32 else if 97 ≤ c ∧ c ≤ 122 then c - 32 else c
theorem swp_sg {c : Nat} (h : Sg c) : Sg (swp c) := by rcases h with rfl | rfl | rfl | rfl <;> decide
theorem swp_low {c : Nat} (h : Sg c) : (if c ≠ lo1 c then lo1 c else up1 c) = swp c := by rcases h with rfl | rfl | rfl | rfl <;> decide
theorem swp_hit {c d : Nat} (hc : Sg c) (hd : Sg d) : (d ≠ c ∧ lo1 d = lo1 c) ↔ d = swp c := by
  rcases hc with rfl | rfl | rfl | rfl <;> rcases hd with rfl | rfl | rfl | rfl <;> decide
theorem swap_at : ∀ c, c < 128 → ∀ (xs : Array Nat) (i : Nat), xs[i]? = some c → (if Unicode.isUpper c then Unicode.lowerAt xs i else if Unicode.isLower c then Unicode.upperOf c else [c]) = [swp c] := by
  intro c hc xs i h
  have h1 : (Unicode.lowerAt xs i) = [lo1 c] := by
    unfold Unicode.lowerAt
    rw [h]
    have hne : (c == 0x3A3) = false := by rw [beq_eq_false_iff_ne]; omega
    simp only [hne, Bool.false_and, Bool.false_eq_true, if_false]
    exact lowerOf_ascii c hc
  rw [h1, upperOf_ascii c hc]
  have h2 : ∀ c, c < 128 → (if Unicode.isUpper c then [lo1 c] else if Unicode.isLower c then [up1 c] else [c]) = [swp c] := by decide +kernel
  exact h2 c hc
theorem swapcase_S {l : List Nat} (h : AllSg l) : Txt.swapcase (S l) = S (l.map swp) := by
  unfold Txt.swapcase
  rw [placed_single (S l) _ swp fun i c hc => by
    have hc' : (S l).cps[i]? = some c := by simpa using hc
    exact swap_at c (h c (List.mem_of_getElem? (by simpa using hc))).lt _ i hc']
  simp [S]
theorem lower_S {l : List Nat} (h : AllSg l) : Txt.lower (S l) = S (l.map lo1) := by
  rw [lower_ascii (x := S l) (by simpa using h.lt)]
  simp [S]
theorem upper_S {l : List Nat} (h : AllSg l) : Txt.upper (S l) = S (l.map up1) := by
  rw [upper_ascii (x := S l) (by simpa using h.lt)]
  simp [S]
theorem joinL_nil : ∀ ls : List (List Nat), TL.joinL [] ls = ls.flatten
  | [] => rfl
  | [p] => by simp [TL.joinL]
  | p :: q :: r => by
    have ih := joinL_nil (q :: r)
    rw [TL.joinL, ih]
    simp
theorem map_S_tl : ∀ l : List (List Nat), (l.map S).map TL.tl = l
  | [] => rfl
  | x :: l => congrArg (fun z => x :: z) (map_S_tl l)
theorem join_S (ls : List (List Nat)) : Txt.join (S []) (ls.map S) = S ls.flatten := by
  have e := TL.tl_join (S []) (ls.map S)
  rw [map_S_tl] at e
  have e2 : TL.tl (S []) = [] := rfl
  rw [e2, joinL_nil] at e
  exact TL.ext_tl ((congrArg TL.tl (TL.join_eq (S []) (ls.map S))).trans e)
theorem flat1 : ∀ l : List Nat, (l.map fun c => [c]).flatten = l
  | [] => rfl
  | c :: l => by rw [List.map_cons, List.flatten_cons, flat1 l]; rfl
/-- the texts of one sign each, joined -/
theorem join_1 (l : List Nat) : Txt.join (S []) (l.map fun c => S [c]) = S l := by
  have := join_S (l.map fun c => [c])
  rw [flat1, List.map_map] at this
  exact this
theorem S_inj {a b : List Nat} (h : S a = S b) : a = b := congrArg (fun x : Str => x.cps.toList) h
theorem S_eq {a b : List Nat} : S a = S b ↔ a = b := ⟨S_inj, congrArg S⟩
theorem revS_S (l : List Nat) : revS (S l) = S l.reverse := rfl

/-! ### striking out -/
def stp (acc : List Nat) (c : Nat) : List Nat := match acc.getLast? with
  | some d => if d = swp c then acc.dropLast else acc ++ [c]
  | none => acc ++ [c]
def strk (l : List Nat) : List Nat := l.foldl stp []
def inv (l : List Nat) : List Nat := l.reverse.map swp
theorem inv_sg {l : List Nat} (h : AllSg l) : AllSg (inv l) := by
  intro c hc
  unfold inv at hc
  obtain ⟨d, hd, rfl⟩ := List.mem_map.mp hc
  exact swp_sg (h d (List.mem_reverse.mp hd))
theorem stp_sg {acc : List Nat} {c : Nat} (h : AllSg acc) (hc : Sg c) : AllSg (stp acc c) := by
  unfold stp
  have ap : AllSg (acc ++ [c]) := by
    intro d hd
    rcases List.mem_append.mp hd with hd | hd
    · exact h d hd
    · rw [List.mem_singleton] at hd; subst hd; exact hc
  split
  · split
    · exact fun d hd => h d (List.dropLast_subset _ hd)
    · exact ap
  · exact ap
theorem stp_len (acc : List Nat) (c : Nat) : (stp acc c).length ≤ acc.length + 1 := by
  unfold stp
  split
  · split
    · simp; omega
    · simp
  · simp
theorem fold_take (l : List Nat) (i : Nat) (c : Nat) (h : l[i]? = some c) : (l.take (i + 1)).foldl stp [] = stp ((l.take i).foldl stp []) c := by
  rw [List.take_add_one, h, List.foldl_append]
  rfl
theorem strk_take_sg {l : List Nat} (h : AllSg l) : ∀ i, AllSg (strk (l.take i)) ∧ (strk (l.take i)).length ≤ i
  | 0 => ⟨fun c hc => by simp [strk] at hc, by simp [strk]⟩
  | i + 1 => by
    obtain ⟨h1, h2⟩ := strk_take_sg h i
    cases e : l[i]? with
    | none =>
      have hi : l.length ≤ i := List.getElem?_eq_none_iff.mp e
      rw [List.take_of_length_le (by omega)] at h1 h2 ⊢
      exact ⟨h1, by omega⟩
    | some c =>
      unfold strk at h1 h2 ⊢
      rw [fold_take l i c e]
      refine ⟨stp_sg h1 (h c (List.mem_of_getElem? e)), ?_⟩
      have := stp_len (List.foldl stp [] (List.take i l)) c
      omega
theorem strk_sg {l : List Nat} (h : AllSg l) : AllSg (strk l) := by
  have := (strk_take_sg h l.length).1
  rwa [List.take_of_length_le (Nat.le_refl _)] at this
theorem strk_len {l : List Nat} (h : AllSg l) : (strk l).length ≤ l.length := by
  have := (strk_take_sg h l.length).2
  rwa [List.take_of_length_le (Nat.le_refl _)] at this

/-! ### what boxes tell -/
def formL (bx : Bxs) (b : Bx) : List Nat := match boxAt bx b with
  | some z => z.cps.toList
  | none => []
def partL (bx : Bxs) (i : Nat) (b : Bx) : List Nat := if i % 2 = 0 then formL bx b else inv (formL bx b)
def partsL (bx : Bxs) (p : List Bx) : List (List Nat) := p.mapIdx fun i b => partL bx i b
def tellsL (bx : Bxs) (p : List Bx) : List Nat := strk (partsL bx p).flatten
theorem formL_ab {bx : Bxs} {w : Nat} (G : GoodB bx w) (b : Bx) : AllAb (formL bx b) ∧ (formL bx b).length ≤ 30 := by
  unfold formL
  cases h : boxAt bx b with
  | none => exact ⟨fun c hc => (nomatch hc), Nat.zero_le _⟩
  | some z =>
    have hb : b.1 < bx.length := (boxAt_lt G h).1
    have hm : some z ∈ bx.getD b.1 [] := by
      have h' : (bx.getD b.1 []).getD b.2 none = some z := h
      have hl := getD_lt h'
      rw [List.getD_eq_getElem?_getD, List.getElem?_eq_getElem hl] at h'
      simp only [Option.getD_some] at h'
      rw [← h']
      exact List.getElem_mem hl
    rw [List.getD_eq_getElem?_getD, List.getElem?_eq_getElem hb] at hm
    have := G.forms _ (List.getElem_mem hb) z hm
    exact ⟨this.2, by have := this.1; simpa [Str.length] using this⟩
theorem partL_sg {bx : Bxs} {w : Nat} (G : GoodB bx w) (i : Nat) (b : Bx) : AllSg (partL bx i b) ∧ (partL bx i b).length ≤ 30 := by
  obtain ⟨h1, h2⟩ := formL_ab G b
  unfold partL
  split
  · exact ⟨h1.sg, h2⟩
  · exact ⟨inv_sg h1.sg, by simpa [inv] using h2⟩
theorem partsL_sg {bx : Bxs} {w : Nat} (G : GoodB bx w) (p : List Bx) : ∀ l ∈ partsL bx p, AllSg l ∧ l.length ≤ 30 := by
  intro l hl
  unfold partsL at hl
  rw [List.mem_mapIdx] at hl
  obtain ⟨i, hi, rfl⟩ := hl
  exact partL_sg G i _
theorem flat_sg {ls : List (List Nat)} (h : ∀ l ∈ ls, AllSg l) : AllSg ls.flatten := by
  intro c hc
  obtain ⟨l, hl, hc⟩ := List.mem_flatten.mp hc
  exact h l hl c hc
theorem sum_len {ls : List (List Nat)} {n : Nat} (h : ∀ l ∈ ls, l.length ≤ n) : (ls.map List.length).sum ≤ n * ls.length := by
  induction ls with
  | nil => simp
  | cons l ls ih =>
    have h1 := h l (List.mem_cons_self ..)
    have h2 := ih fun m hm => h m (List.mem_cons_of_mem _ hm)
    rw [List.map_cons, List.sum_cons, List.length_cons, Nat.mul_add, Nat.mul_one]
    omega
theorem flat_len {ls : List (List Nat)} {n : Nat} (h : ∀ l ∈ ls, l.length ≤ n) : ls.flatten.length ≤ n * ls.length := by
  rw [List.length_flatten]
  exact sum_len h
end K15
end
section
set_option maxRecDepth 100000
set_option maxHeartbeats 4000000
namespace K15
open PySem PySem.Spec PyProof.Rows L2
/-! ### the same rules within a comprehension: the loaded part by its own name -/
section
variable {X : Cx} {K : PySem.W.Frag}
theorem pe_fldB {e : Expr} {f : Str} {pos : Pos} {ta : TE} (hK : X.K = K) (he : PE X e ta) (hb : attributeBase e f X.env (eval e X.env) = eval e X.env) : PE X (.Attribute e f pos) (tFld K ta f) := by
  subst hK
  exact pe_fld he hb
theorem ix_tupB (hK : X.K = K) : IxR X (rIxT K) := by
  subst hK
  exact ix_tup
theorem ix_listB (hK : X.K = K) : IxR X (rIxL K) := by
  subst hK
  exact ix_list
theorem op_eqDB (hK : X.K = K) (hu : X.A.units + 64 < cLine) : OpR X (compareOp .Eq) (rEqD K) := by
  subst hK
  exact op_eqD hu
theorem op_neDB (hK : X.K = K) (hu : X.A.units + 64 < cLine) : OpR X (compareOp .NotEq) (rNeD K) := by
  subst hK
  exact op_neD hu
theorem call_tuple_ofB (hK : X.K = K) : CallR X (.type "tuple") (fun xs H Q => ∃ p ys, xs = [.ref p] ∧ ((SqL K H p ys ∧ ∀ l, H l = none → Q (.ref l) (upd H l (.tup ys))) ∨ (SqT K H p ys ∧ Q (.ref p) H))) := by
  subst hK
  exact call_tuple_of
theorem call_list_ofB (hK : X.K = K) : CallR X (.type "list") (fun xs H Q => ∃ p ys, xs = [.ref p] ∧ (SqL K H p ys ∨ SqT K H p ys) ∧ ∀ l, H l = none → Q (.ref l) (upd H l (.lst ys))) := by
  subst hK
  exact call_list_of
theorem pi_tupB {tg l : Expr} {tl : TE} (hK : X.K = K) (hl : PE X l tl) : PI X tg l (iTup K tl) := by
  subst hK
  exact pi_tup hl
theorem pi_listB {tg l : Expr} {tl : TE} (hK : X.K = K) (hl : PE X l tl) : PI X tg l (iList K tl) := by
  subst hK
  exact pi_list hl
theorem pg_tupB {es : List Expr} {k n : Nat} {t : TGs} {pos : Pos} (hK : X.K = K) (hc : X.calm = true) (h : PGs X es t)
    (hn : (assignEach es X.env).length = n := by rfl) (hst : (assignEach es X.env).findIdx? (·.1) = none := by rfl) : PG X (.Tuple es k pos) (gTup K n t) := by
  subst hK
  exact pg_tup hc h hn hst
theorem call_len_seqB (hK : X.K = K) : CallR X (.builtin "len") (fun xs H Q => ∃ p ys, xs = [.ref p] ∧ (SqL K H p ys ∨ SqT K H p ys) ∧ Q (.int ys.length) H) := by
  subst hK
  exact call_len_seq
end
/-- range(n), range(1, n): the numbers as they are -/
theorem walk_rg0 {n : Nat} : Walk (Itr 0 n) n (fun _ => True) (fun i H x H' => H' = H ∧ x = V.int (i : Int)) :=
  walk_range.mono (fun _ h => h) fun i H x H' _ _ y => ⟨y.1, y.2.trans (congrArg V.int (Int.zero_add _))⟩
theorem walk_rg1 {n : Nat} : Walk (Itr 1 n) n (fun _ => True) (fun i H x H' => H' = H ∧ x = V.int ((i + 1 : Nat) : Int)) :=
  walk_range.mono (fun _ h => h) fun i H x H' _ _ y => ⟨y.1, y.2.trans (congrArg V.int (by omega))⟩
end K15
end
section
set_option maxRecDepth 100000
set_option maxHeartbeats 4000000
namespace K15
open PySem PySem.Spec PyProof.Rows L2
variable {P : Program} {w : World} {K : PySem.W.Frag} {mg : Str → Option Value} {base : Heap} {C : Addr}

def sp_is_integer : Sp := fun vs H Q _ => ∃ i : Int, vs = [.int i] ∧ Q (.bl true) H
theorem cal_is_integer (T : Txt K mg C) : Cal P w K mg base 1 "is_integer" sp_is_integer := by
  refine cal_of T.d_is_integer sc_is_integer (fun vs H Q E h => ?_) fun f cdv A outer s H vs Q E hr h => ?_
  · obtain ⟨i, rfl, _⟩ := h
    rfl
  · obtain ⟨i, rfl, q⟩ := h
    have nd := sc_is_integer.nd
    refine ⟨_, (pss_one (ps_ret (pe_and (pe_callB call_isi (by rfl) T.b_isinstance (by decide +kernel) (pa_cons (pv 0) (pa_cons (pe_ty "int" (by rfl) T.b_int (by decide +kernel)) pa_nil))) (pe_one (pe_not (pe_callB call_isi (by rfl) T.b_isinstance (by decide +kernel) (pa_cons (pv 0) (pa_cons (pe_ty "bool" (by rfl) T.b_bool (by decide +kernel)) pa_nil)))))))), ?_⟩
    refine ⟨_, rfl, _, _, _, _, true, rfl, .ty "int", .base (.int i), kit_ty (by decide +kernel), true, rfl, ?_⟩
    refine ⟨_, rfl, _, _, _, _, false, rfl, .ty "bool", .base (.int i), kit_ty (by decide +kernel), false, rfl, ?_⟩
    exact q

def sp_is_within : Sp := fun vs H Q _ => ∃ i l m : Int, vs = [.int i, .int l, .int m] ∧ Q (.bl (decide (l ≤ i) && decide (i ≤ m))) H
theorem cal_is_within (T : Txt K mg C) : Cal P w K mg base 2 "is_within" sp_is_within := by
  have c_is_integer := cal_is_integer (P := P) (w := w) (base := base) T
  refine cal_of T.d_is_within sc_is_within (fun vs H Q E h => ?_) fun f cdv A outer s H vs Q E hr h => ?_
  · obtain ⟨i, l, m, rfl, _⟩ := h
    rfl
  · obtain ⟨i, l, m, rfl, q⟩ := h
    have nd := sc_is_within.nd
    refine ⟨_, (pss_one (ps_ret (pe_and (pe_c c_is_integer hr (by decide) (by rfl) (pa_cons (pv 0) pa_nil)) (pe_one (pe_chain op_le op_le (pv 1) (pv 0) (pv 2)))))), ?_⟩
    refine ⟨_, rfl, i, rfl, true, rfl, iteT ?_⟩
    refine ⟨_, rfl, _, rfl, l, i, rfl, rfl, _, rfl, ite2 (fun e => ?_) fun e => ?_⟩
    · refine ⟨_, rfl, i, m, rfl, rfl, ?_⟩
      rw [e] at q
      exact q
    · have e' : decide (l ≤ i) = false := by simpa using e
      rw [e'] at q
      exact q

def sp_is_pair : Sp := fun vs H Q _ => ∃ (a : Addr) (x y : V), vs = [.ref a] ∧ H a = some (.tup [x, y]) ∧ Q (.bl true) H
theorem cal_is_pair (T : Txt K mg C) : Cal P w K mg base 1 "is_pair" sp_is_pair := by
  refine cal_of T.d_is_pair sc_is_pair (fun vs H Q E h => ?_) fun f cdv A outer s H vs Q E hr h => ?_
  · obtain ⟨a, x, y, rfl, _⟩ := h
    rfl
  · obtain ⟨a, x, y, rfl, ha, q⟩ := h
    have nd := sc_is_pair.nd
    refine ⟨_, (pss_one (ps_ret (pe_and (pe_callB call_isi (by rfl) T.b_isinstance (by decide +kernel) (pa_cons (pv 0) (pa_cons (pe_ty "tuple" (by rfl) T.b_tuple (by decide +kernel)) pa_nil))) (pe_one (pe_cmpR op_eq (pe_callB call_len_seq (by rfl) T.b_len PySem.boot_len (pa_cons (pv 0) pa_nil)) pe_int (nomark _)))))), ?_⟩
    refine ⟨_, rfl, _, _, _, _, true, rfl, .ty "tuple", .base (.tup ha), kit_ty (by decide +kernel), true, rfl, iteT ?_⟩
    exact ⟨_, rfl, a, [x, y], rfl, .inr (SqT.of ha), rfl, q⟩

def letters : Str := "abcdefghijklmnopqrstuvwxyz"
theorem in_letters {c : Nat} (h : c = 97 ∨ c = 98) : decide (c ∈ letters.cps.toList) = true := by
  rcases h with rfl | rfl <;> decide +kernel
def sp_is_word : Sp := fun vs H Q _ => ∃ z : Str, vs = [.str letters, .str z] ∧ z.length ≤ 100 ∧ (∀ c ∈ z.cps.toList, c = 97 ∨ c = 98) ∧ ∀ H', Same H H' → Q (.bl true) H'
theorem cal_is_word (T : Txt K mg C) : Cal P w K mg base 1 "is_word" sp_is_word := by
  refine cal_of T.d_is_word sc_is_word (fun vs H Q E h => ?_) fun f cdv A outer s H vs Q E hr h => ?_
  · obtain ⟨z, rfl, _⟩ := h
    rfl
  · obtain ⟨z, rfl, hl, hz, q⟩ := h
    have nd := sc_is_word.nd
    refine ⟨_, (pss_one (ps_ret (pe_and (pe_callB call_isi (by rfl) T.b_isinstance (by decide +kernel) (pa_cons (pv 1) (pa_cons (pe_ty "str" (by rfl) T.b_str (by decide +kernel)) pa_nil))) (pe_one (pe_callB (cr_all rfl) (by rfl) T.b_all (by decide +kernel) (pa_cons (pe_lc (own := [("sign", 2)]) rfl nd (pi_str (pv 1)) (blkOk_by (own := [("sign", 2)]) (N := N_is_word) (sc := defScope s_is_word) (by decide +kernel)) (fun _ _ _ _ _ => (pg_name (i := 2) nd rfl (Or.inl rfl))) (fun _ _ _ _ _ => pts_nil) (fun _ _ _ _ _ => (pe_cmpR op_in_sign (pv 2) (pv 0) (by rfl)))) pa_nil)))))), ?_⟩
    refine ⟨_, rfl, _, _, _, _, true, rfl, .ty "str", .base (.str z), kit_ty (by decide +kernel), true, rfl, iteT ?_⟩
    refine ⟨_, rfl, z, rfl, fun D hD => ?_⟩
    refine lc_it walk_str (fun i H' => Same H H' ∧ H' D = some (.lst ((List.replicate i true).map V.bl))) ⟨same_upd hD, upd_same⟩ (fun _ _ _ _ => trivial) (fun i x H1 H2 hi hP hY => ?_) fun H1 hP => ?_
    · obtain ⟨s1, hL⟩ := hP
      obtain ⟨rfl, c, hc, rfl⟩ := hY
      have hin : decide (c ∈ letters.cps.toList) = true := in_letters (hz c (List.mem_of_getElem? (by simpa using hc)))
      refine ⟨rfl, _, rfl, _, rfl, c, letters, rfl, rfl, _, hL, ?_, same_mut s1 hD, ?_⟩
      · have : i < z.length := hi
        rw [List.length_map, List.length_replicate]
        exact smallL (by omega)
      · rw [upd_same, hin, List.replicate_succ', List.map_append]
        rfl
    · obtain ⟨s1, hL⟩ := hP
      refine ⟨D, _, rfl, SqL.of hL, ?_⟩
      have : (List.replicate z.cps.size true).all id = true := by simp
      rw [this]
      exact q H1 s1

def sp_is_text : Sp := fun vs H Q _ => ∃ z : Str, vs = [.str z] ∧ GoodF z ∧ ∀ H', Same H H' → Q (.bl true) H'
theorem cal_is_text (T : Txt K mg C) : Cal P w K mg base 2 "is_text" sp_is_text := by
  have c_is_word := cal_is_word (P := P) (w := w) (base := base) T
  refine cal_of T.d_is_text sc_is_text (fun vs H Q E h => ?_) fun f cdv A outer s H vs Q E hr h => ?_
  · obtain ⟨z, rfl, _⟩ := h
    rfl
  · obtain ⟨z, rfl, hz, q⟩ := h
    have nd := sc_is_text.nd
    refine ⟨_, (pss_one (ps_ret (pe_c c_is_word hr (by decide) (by rfl) (pa_cons (pe_gs (by rfl) T.c_LETTERS) (pa_cons (pv 0) pa_nil))))), ?_⟩
    exact ⟨_, rfl, z, rfl, by have := hz.1; omega, hz.2, q⟩

def sp_is_form : Sp := fun vs H Q _ => ∃ z : Str, vs = [.str z, .int 30] ∧ GoodF z ∧ ∀ H', Same H H' → Q (.bl true) H'
theorem cal_is_form (T : Txt K mg C) : Cal P w K mg base 3 "is_form" sp_is_form := by
  have c_is_text := cal_is_text (P := P) (w := w) (base := base) T
  refine cal_of T.d_is_form sc_is_form (fun vs H Q E h => ?_) fun f cdv A outer s H vs Q E hr h => ?_
  · obtain ⟨z, rfl, _⟩ := h
    rfl
  · obtain ⟨z, rfl, hz, q⟩ := h
    have nd := sc_is_form.nd
    refine ⟨_, (pss_one (ps_ret (pe_and (pe_c c_is_text hr (by decide) (by rfl) (pa_cons (pv 0) pa_nil)) (pe_one (pe_cmpR op_le (pe_callB call_len_str (by rfl) T.b_len PySem.boot_len (pa_cons (pv 0) pa_nil)) (pv 1) (nomark _)))))), ?_⟩
    refine ⟨_, rfl, z, rfl, hz, fun H1 s1 => ⟨true, rfl, iteT ?_⟩⟩
    refine ⟨_, rfl, z, rfl, ?_, _, rfl, _, _, rfl, rfl, ?_⟩
    · have := hz.1
      exact small (by omega)
    · have := hz.1
      exact bl_true (Q := Q) (by omega) (q H1 s1)

def sp_is_row : Sp := fun vs H Q _ => ∃ (a : Addr) (xs : List V), vs = [.ref a] ∧ H a = some (.tup xs) ∧ 1 ≤ xs.length ∧ xs.length ≤ 12 ∧ Q (.bl true) H
theorem cal_is_row (T : Txt K mg C) : Cal P w K mg base 1 "is_row" sp_is_row := by
  refine cal_of T.d_is_row sc_is_row (fun vs H Q E h => ?_) fun f cdv A outer s H vs Q E hr h => ?_
  · obtain ⟨a, xs, rfl, _⟩ := h
    rfl
  · obtain ⟨a, xs, rfl, ha, h1, h2, q⟩ := h
    have nd := sc_is_row.nd
    refine ⟨_, (pss_one (ps_ret (pe_and (pe_callB call_isi (by rfl) T.b_isinstance (by decide +kernel) (pa_cons (pv 0) (pa_cons (pe_ty "tuple" (by rfl) T.b_tuple (by decide +kernel)) pa_nil))) (pe_one (pe_chain op_le op_le pe_int (pe_callB call_len_seq (by rfl) T.b_len PySem.boot_len (pa_cons (pv 0) pa_nil)) (pe_gi (by rfl) T.c_MOST_ROWS)))))), ?_⟩
    refine ⟨_, rfl, _, _, _, _, true, rfl, .ty "tuple", .base (.tup ha), kit_ty (by decide +kernel), true, rfl, iteT ?_⟩
    refine ⟨_, rfl, a, xs, rfl, .inr (SqT.of ha), 1, _, rfl, rfl, _, rfl, ?_⟩
    rw [decide_eq_true (show (1 : Int) ≤ (xs.length : Int) by omega)]
    refine iteT ⟨_, _, rfl, rfl, ?_⟩
    exact bl_true (Q := Q) (by omega) q

def sp_is_box_text : Sp := fun vs H Q _ => ∃ o : Option Str, vs = [optV o] ∧ (∀ z, o = some z → GoodF z) ∧ ∀ H', Same H H' → Q (.bl true) H'
theorem cal_is_box_text (T : Txt K mg C) : Cal P w K mg base 4 "is_box_text" sp_is_box_text := by
  have c_is_form := cal_is_form (P := P) (w := w) (base := base) T
  refine cal_of T.d_is_box_text sc_is_box_text (fun vs H Q E h => ?_) fun f cdv A outer s H vs Q E hr h => ?_
  · obtain ⟨z, rfl, _⟩ := h
    rfl
  · obtain ⟨o, rfl, ho, q⟩ := h
    have nd := sc_is_box_text.nd
    refine ⟨_, (pss_one (ps_ret (pe_or (pe_cmp (pc_isN (pv 0)) rfl) (pe_one (pe_c c_is_form hr (by decide) (by rfl) (pa_cons (pv 0) (pa_cons (pe_gi (by rfl) T.c_MOST_LETTERS) pa_nil))))))), ?_⟩
    refine ⟨_, rfl, _, rfl, ?_⟩
    cases o with
    | none =>
      exact iteT (q H (Same.refl H))
    | some z =>
      refine iteF ⟨_, rfl, z, rfl, ho z rfl, q⟩

def sp_is_box (C : Addr) : Sp := fun vs H Q _ => ∃ (p a : Addr) (bx : Bxs) (wd : Nat) (b : Bx), vs = [.ref p, .ref a] ∧ TblAt C H p bx wd ∧ H a = some (tupB b) ∧ b.1 < bx.length ∧ b.2 < wd ∧ Q (.bl true) H
theorem cal_is_box (T : Txt K mg C) : Cal P w K mg base 3 "is_box" (sp_is_box C) := by
  have c_is_pair := cal_is_pair (P := P) (w := w) (base := base) T
  have c_is_within := cal_is_within (P := P) (w := w) (base := base) T
  refine cal_of T.d_is_box sc_is_box (fun vs H Q E h => ?_) fun f cdv A outer s H vs Q E hr h => ?_
  · obtain ⟨p, a, bx, wd, b, rfl, _⟩ := h
    rfl
  · obtain ⟨p, a, bx, wd, b, rfl, ht, ha, h1, h2, q⟩ := h
    have nd := sc_is_box.nd
    obtain ⟨dx, d, fs, e1, e2, e3, e4, e5⟩ := ht.ex
    refine ⟨_, (pss_one (ps_ret (pe_and (pe_c c_is_pair hr (by decide) (by rfl) (pa_cons (pv 1) pa_nil)) (pe_and (pe_c c_is_within hr (by decide) (by rfl) (pa_cons (pe_ix ix_tup (pv 1) pe_int (fun _ _ => rfl)) (pa_cons pe_int (pa_cons (pe_op op_sub (pe_fld (pv 0) rfl) pe_int) pa_nil)))) (pe_one (pe_c c_is_within hr (by decide) (by rfl) (pa_cons (pe_ix ix_tup (pv 1) pe_int (fun _ _ => rfl)) (pa_cons pe_int (pa_cons (pe_op op_sub (pe_fld (pv 0) rfl) pe_int) pa_nil))))))))), ?_⟩
    refine ⟨_, rfl, a, _, _, rfl, ha, true, rfl, iteT ?_⟩
    refine ⟨_, rfl, a, _, 0, _, rfl, rfl, SqT.of ha, atI_nat (j := 0) rfl, _, rfl, p, C, dx, fs, _, rfl, e1, T.cl, T.nH, e2, _, 1, rfl, rfl, ?_⟩
    refine ⟨_, _, _, rfl, _, rfl, ?_⟩
    rw [decide_eq_true (show (0 : Int) ≤ (b.1 : Int) by omega), decide_eq_true (show (b.1 : Int) ≤ (bx.length : Int) - 1 by omega)]
    refine iteT ?_
    refine ⟨_, rfl, a, _, 1, _, rfl, rfl, SqT.of ha, atI_nat (j := 1) rfl, _, rfl, p, C, dx, fs, _, rfl, e1, T.cl, T.nW, e3, _, 1, rfl, rfl, ?_⟩
    refine ⟨_, _, _, rfl, ?_⟩
    rw [decide_eq_true (show (0 : Int) ≤ (b.2 : Int) by omega), decide_eq_true (show (b.2 : Int) ≤ (wd : Int) - 1 by omega)]
    exact q

def sp_check_place (C : Addr) : Sp := fun vs H Q _ => ∃ (p : Addr) (bx : Bxs) (wd r c : Nat), vs = [.ref p, .int (r : Int), .int (c : Int)] ∧ TblAt C H p bx wd ∧ r < bx.length ∧ c < wd ∧ Q .non H
theorem cal_check_place (T : Txt K mg C) : Cal P w K mg base 3 "check_place" (sp_check_place C) := by
  have c_is_within := cal_is_within (P := P) (w := w) (base := base) T
  refine cal_of T.d_check_place sc_check_place (fun vs H Q E h => ?_) fun f cdv A outer s H vs Q E hr h => ?_
  · obtain ⟨p, bx, wd, r, c, rfl, _⟩ := h
    rfl
  · obtain ⟨p, bx, wd, r, c, rfl, ht, h1, h2, q⟩ := h
    have nd := sc_check_place.nd
    obtain ⟨dx, d, fs, e1, e2, e3, e4, e5⟩ := ht.ex
    refine ⟨_, (pss_cons (ps_if (pt_not (pt_val (pe_c c_is_within hr (by decide) (by rfl) (pa_cons (pv 1) (pa_cons pe_int (pa_cons (pe_op op_sub (pe_fld (pv 0) rfl) pe_int) pa_nil))))))
(pss_one ps_never)
pss_nil)
(pss_one (ps_if (pt_not (pt_val (pe_c c_is_within hr (by decide) (by rfl) (pa_cons (pv 2) (pa_cons pe_int (pa_cons (pe_op op_sub (pe_fld (pv 0) rfl) pe_int) pa_nil))))))
(pss_one ps_never)
pss_nil))), ?_⟩
    refine ⟨_, rfl, _, rfl, p, C, dx, fs, _, rfl, e1, T.cl, T.nH, e2, _, 1, rfl, rfl, ?_⟩
    refine ⟨_, _, _, rfl, _, rfl, ?_⟩
    rw [decide_eq_true (show (0 : Int) ≤ (r : Int) by omega), decide_eq_true (show (r : Int) ≤ (bx.length : Int) - 1 by omega)]
    refine iteF ?_
    refine ⟨_, rfl, _, rfl, p, C, dx, fs, _, rfl, e1, T.cl, T.nW, e3, _, 1, rfl, rfl, ?_⟩
    refine ⟨_, _, _, rfl, _, rfl, ?_⟩
    rw [decide_eq_true (show (0 : Int) ≤ (c : Int) by omega), decide_eq_true (show (c : Int) ≤ (wd : Int) - 1 by omega)]
    exact iteF q
end K15
end
section
set_option maxRecDepth 100000
set_option maxHeartbeats 4000000
namespace K15
open PySem PySem.Spec PyProof.Rows L2
variable {P : Program} {w : World} {K : PySem.W.Frag} {mg : Str → Option Value} {base : Heap} {C : Addr}

def sgV (l : List Nat) : List V := l.map fun c => V.str (S [c])
theorem sgV_len (l : List Nat) : (sgV l).length = l.length := by simp [sgV]
theorem sgV_snoc (l : List Nat) (c : Nat) : sgV (l ++ [c]) = sgV l ++ [V.str (S [c])] := by simp [sgV]
theorem one_le (c : Nat) : (S [c]).length ≤ 5592405 := by
  rw [S_len]
  show 1 ≤ 5592405
  decide
theorem stp_nil (c : Nat) : stp [] c = [c] := rfl
theorem stp_hit {a : List Nat} {d c : Nat} (h : d = swp c) : stp (a ++ [d]) c = a := by
  unfold stp
  simp [h]
theorem stp_miss {a : List Nat} {d c : Nat} (h : ¬ d = swp c) : stp (a ++ [d]) c = a ++ [d] ++ [c] := by
  unfold stp
  simp [h]
theorem snoc_of {α : Type} : ∀ {l : List α}, 0 < l.length → ∃ a d, l = a ++ [d] := fun {l} h => by
  have hne : l ≠ [] := fun e => by subst e; simp at h
  exact ⟨l.dropLast, l.getLast hne, (List.dropLast_concat_getLast hne).symm⟩
theorem str_eq {a b : List Nat} : (V.str (S a) = V.str (S b)) ↔ a = b := ⟨fun e => S_inj (V.str.inj e), fun e => by rw [e]⟩
theorem join_sg (l : List Nat) : Txt.join (S []) ((l.map fun c => S [c])) = S l := join_1 l
theorem sum_1 (l : List Nat) : (((l.map fun c => S [c]).map (·.length)).sum) = l.length := by
  induction l with
  | nil => rfl
  | cons c l ih =>
    rw [List.map_cons, List.map_cons, List.sum_cons, ih, S_len, List.length_cons]
    simp
    omega

def strL (ls : List (List Nat)) : List V := ls.map fun l => V.str (S l)
theorem strL_snoc (ls : List (List Nat)) (l : List Nat) : strL (ls ++ [l]) = strL ls ++ [V.str (S l)] := by simp [strL]
theorem strL_len (ls : List (List Nat)) : (strL ls).length = ls.length := by simp [strL]
def sp_strike : Sp := fun vs H Q _ => ∃ l : List Nat, vs = [.str (S l)] ∧ AllSg l ∧ l.length ≤ 10000 ∧ ∀ H', Same H H' → Q (.str (S (strk l))) H'
theorem cal_strike (T : Txt K mg C) : Cal P w K mg base 1 "strike" sp_strike := by
  refine cal_of T.d_strike sc_strike (fun vs H Q E h => ?_) fun f cdv A outer s H vs Q E hr h => ?_
  · obtain ⟨l, rfl, _⟩ := h
    rfl
  · obtain ⟨l, rfl, hsg, hl, q⟩ := h
    have nd := sc_strike.nd
    refine ⟨_, (pss_cons (ps_set (i := 1) nd rfl (Or.inl rfl) (pe_lst pa_nil))
(pss_cons (ps_for PassesOwn.never rfl (pi_str (pv 0)) (pg_name (i := 2) nd rfl (Or.inl rfl))
(pss_one (ps_if (PW.pt (pw_and (pt_cmpR op_gt (pe_callB call_len_seq (by rfl) T.b_len PySem.boot_len (pa_cons (pv 1) pa_nil)) pe_int (nomark _)) (pw_and1 (pt_cmpR op_eq (pe_ix ix_list (pv 1) (pe_un un_neg pe_int) (fun _ _ => rfl)) (pe_m0 PySem.F.slot_str_swapcase PySem.F.type_str_swapcase mt_swapcase (pv 2)) (nomark _)))))
(pss_one (ps_expr (pe_bm0 PySem.F.plainAttrs_list PySem.F.slot_list_pop PySem.F.type_list_pop mt_pop (pv 1))))
(pss_one (ps_expr (pe_bm PySem.F.plainAttrs_list PySem.F.slot_list_append PySem.F.type_list_append mt_append (pv 1) (pa_cons (pv 2) pa_nil)))))))
(pss_one (ps_ret (pe_join pe_str (pv 1)))))), ?_⟩
    refine ⟨Nat.zero_le _, fun o no => ?_⟩
    refine ⟨_, rfl, S l, rfl, ?_⟩
    refine for_it walk_str (fun i σ H' => ∃ y, σ = [some (.str (S l)), some (.ref o), y] ∧ Same H H' ∧ H' o = some (.lst (sgV (strk (l.take i))))) ⟨_, rfl, same_upd no, upd_same⟩ (fun _ _ _ _ _ => trivial) ?_ ?_
    · rintro i x σ H1 H2 hi ⟨y, rfl, s1, ho⟩ ⟨rfl, c, hc, rfl⟩
      have hc' : l[i]? = some c := by simpa using hc
      have hcs : Sg c := hsg c (List.mem_of_getElem? hc')
      have hil : i < l.length := (List.getElem?_eq_some_iff.mp hc').1
      obtain ⟨hA, hAl⟩ := strk_take_sg hsg i
      have hnx : strk (l.take (i + 1)) = stp (strk (l.take i)) c := fold_take l i c hc'
      have hsw : Txt.swapcase (S [c]) = S [swp c] := swapcase_S (l := [c]) (fun d hd => by rw [List.mem_singleton] at hd; subst hd; exact hcs)
      have hmis : ∀ (hh : strk (l.take (i + 1)) = strk (l.take i) ++ [c]), ∃ y, [some (V.str (S l)), some (.ref o), some (.str (S [c]))] = [some (V.str (S l)), some (.ref o), y] ∧ Same H (upd H2 o (.lst (sgV (strk (l.take i)) ++ [.str (S [c])]))) ∧ (upd H2 o (.lst (sgV (strk (l.take i)) ++ [.str (S [c])]))) o = some (.lst (sgV (strk (l.take (i + 1))))) := fun hh =>
        ⟨_, rfl, same_mut s1 no, by rw [upd_same, hh, sgV_snoc]⟩
      refine ⟨_, rfl, o, _, rfl, .inl (SqL.of ho), _, 0, rfl, rfl, _, rfl, ite2 (fun e => ?_) fun e => ?_⟩
      · have e1 : 0 < (strk (l.take i)).length := by
          have := of_decide_eq_true e
          rw [sgV_len] at this
          omega
        obtain ⟨a, d, had⟩ := snoc_of e1
        have ho' : H2 o = some (.lst (sgV a ++ [.str (S [d])])) := by rw [ho, had, sgV_snoc]
        refine ⟨_, rfl, 1, rfl, o, _, -1, _, rfl, rfl, SqL.of ho', atI_last _ _, _, rfl, ⟨_, rfl⟩, _, rfl, rfl, one_le _, rfl, _, rfl, ?_⟩
        rw [hsw]
        by_cases hd : d = swp c
        · refine iteD (str_eq.mpr (by rw [hd])) ?_
          refine ⟨_, rfl, .inl ⟨rfl, _, .inl (.inl ho')⟩, o, _, .str (S [d]), rfl, rfl, ho', by simp, ?_⟩
          refine ⟨_, rfl, same_mut s1 no, ?_⟩
          rw [upd_same, hnx, had, stp_hit hd]
          simp
        · refine iteND (fun z => hd (List.singleton_inj.mp (str_eq.mp z))) ?_
          refine ⟨_, rfl, .inl ⟨rfl, _, .inl (.inl ho)⟩, _, rfl, o, _, _, rfl, rfl, ho, ?_, ?_⟩
          · rw [sgV_len]; exact smallL (by omega)
          · exact hmis (by rw [hnx, had, stp_miss hd])
      · have e1 : strk (l.take i) = [] := by
          have h0 : ¬ (0 : Int) < ((sgV (strk (l.take i))).length : Int) := fun z => e (decide_eq_true z)
          rw [sgV_len] at h0
          exact List.length_eq_zero_iff.mp (by omega)
        refine ⟨_, rfl, .inl ⟨rfl, _, .inl (.inl ho)⟩, _, rfl, o, _, _, rfl, rfl, ho, ?_, ?_⟩
        · rw [sgV_len]; exact smallL (by omega)
        · exact hmis (by rw [hnx, e1]; rfl)
    · rintro σ H1 ⟨y, rfl, s1, ho⟩
      have hn : (S l).cps.size = l.length := by simp [S]
      rw [hn, List.take_of_length_le (Nat.le_refl _)] at ho
      have hlen := strk_len hsg
      refine ⟨⟨_, rfl⟩, _, rfl, S [], o, (strk l).map fun c => S [c], rfl, rfl, .inl (SqL.of (by rw [ho, List.map_map]; rfl)), ?_, ?_⟩
      · rw [sum_1, S_len]
        simp
        omega
      · rw [join_sg]
        exact q H1 s1

def sp_inverse : Sp := fun vs H Q _ => ∃ l : List Nat, vs = [.str (S l)] ∧ AllSg l ∧ l.length ≤ 10000 ∧ Q (.str (S (inv l))) H
theorem cal_inverse (T : Txt K mg C) : Cal P w K mg base 1 "inverse" sp_inverse := by
  refine cal_of T.d_inverse sc_inverse (fun vs H Q E h => ?_) fun f cdv A outer s H vs Q E hr h => ?_
  · obtain ⟨l, rfl, _⟩ := h
    rfl
  · obtain ⟨l, rfl, hsg, hl, q⟩ := h
    have nd := sc_inverse.nd
    refine ⟨_, (pss_one (ps_ret (pe_m0 PySem.F.slot_str_swapcase PySem.F.type_str_swapcase mt_swapcase (pe_revS (pv 0))))), ?_⟩
    refine ⟨_, rfl, S l, rfl, by rw [S_len]; exact small (by omega), ⟨_, rfl⟩, _, rfl, rfl, by rw [revS_len, S_len]; omega, ?_⟩
    rw [revS_S, swapcase_S (fun c hc => hsg c (List.mem_reverse.mp hc))]
    exact q

def sp_product : Sp := fun vs H Q _ => ∃ (a : Addr) (ls : List (List Nat)), vs = [.ref a] ∧ H a = some (.lst (ls.map fun l => V.str (S l))) ∧ (∀ l ∈ ls, AllSg l ∧ l.length ≤ 30) ∧ ls.length ≤ 100 ∧ ∀ H', Same H H' → Q (.str (S (strk ls.flatten))) H'
theorem sum_S {ls : List (List Nat)} : (((ls.map S).map (·.length)).sum) = (ls.map List.length).sum := by
  induction ls with
  | nil => rfl
  | cons l ls ih => rw [List.map_cons, List.map_cons, List.sum_cons, ih, S_len, List.map_cons, List.sum_cons]
theorem cal_product (T : Txt K mg C) : Cal P w K mg base 2 "product" sp_product := by
  have c_strike := cal_strike (P := P) (w := w) (base := base) T
  refine cal_of T.d_product sc_product (fun vs H Q E h => ?_) fun f cdv A outer s H vs Q E hr h => ?_
  · obtain ⟨a, ls, rfl, _⟩ := h
    rfl
  · obtain ⟨a, ls, rfl, ha, hls, hn, q⟩ := h
    have nd := sc_product.nd
    have h1 := sum_len (ls := ls) (n := 30) fun l hl => (hls l hl).2
    have h2 := flat_len (ls := ls) (n := 30) fun l hl => (hls l hl).2
    refine ⟨_, (pss_one (ps_ret (pe_c c_strike hr (by decide) (by rfl) (pa_cons (pe_join pe_str (pv 0)) pa_nil)))), ?_⟩
    refine ⟨⟨_, rfl⟩, _, rfl, S [], a, ls.map S, rfl, rfl, .inl (SqL.of (by rw [ha, List.map_map]; rfl)), ?_, ?_⟩
    · rw [sum_S, S_len]
      simp
      omega
    · rw [join_S]
      exact ⟨_, rfl, flat_sg fun l hl => (hls l hl).1, by omega, q⟩

def sp_law_struck : Sp := sp_strike
theorem cal_law_struck (T : Txt K mg C) : Cal P w K mg base 1 "_law_struck" sp_law_struck := by
  refine cal_of T.d_law_struck sc_law_struck (fun vs H Q E h => ?_) fun f cdv A outer s H vs Q E hr h => ?_
  · obtain ⟨l, rfl, _⟩ := h
    rfl
  · obtain ⟨l, rfl, hsg, hl, q⟩ := h
    have nd := sc_law_struck.nd
    refine ⟨_, (pss_cons (ps_set (i := 1) nd rfl (Or.inl rfl) (pe_lst pa_nil))
(pss_cons (ps_for PassesOwn.never rfl (pi_str (pv 0)) (pg_name (i := 2) nd rfl (Or.inl rfl))
(pss_one (ps_if (PW.pt (pw_and (pt_cmpR op_gt (pe_callB call_len_seq (by rfl) T.b_len PySem.boot_len (pa_cons (pv 1) pa_nil)) pe_int (nomark _)) (pw_and (pt_cmpR op_ne (pe_ix ix_list (pv 1) (pe_un un_neg pe_int) (fun _ _ => rfl)) (pv 2) (nomark _)) (pw_and1 (pt_cmpR op_eq (pe_lower (pe_ix ix_list (pv 1) (pe_un un_neg pe_int) (fun _ _ => rfl))) (pe_lower (pv 2)) (nomark _))))))
(pss_one (ps_expr (pe_bm0 PySem.F.plainAttrs_list PySem.F.slot_list_pop PySem.F.type_list_pop mt_pop (pv 1))))
(pss_one (ps_expr (pe_bm PySem.F.plainAttrs_list PySem.F.slot_list_append PySem.F.type_list_append mt_append (pv 1) (pa_cons (pv 2) pa_nil)))))))
(pss_one (ps_ret (pe_join pe_str (pv 1)))))), ?_⟩
    refine ⟨Nat.zero_le _, fun o no => ?_⟩
    refine ⟨_, rfl, S l, rfl, ?_⟩
    refine for_it walk_str (fun i σ H' => ∃ y, σ = [some (.str (S l)), some (.ref o), y] ∧ Same H H' ∧ H' o = some (.lst (sgV (strk (l.take i))))) ⟨_, rfl, same_upd no, upd_same⟩ (fun _ _ _ _ _ => trivial) ?_ ?_
    · rintro i x σ H1 H2 hi ⟨y, rfl, s1, ho⟩ ⟨rfl, c, hc, rfl⟩
      have hc' : l[i]? = some c := by simpa using hc
      have hcs : Sg c := hsg c (List.mem_of_getElem? hc')
      have hil : i < l.length := (List.getElem?_eq_some_iff.mp hc').1
      obtain ⟨hA, hAl⟩ := strk_take_sg hsg i
      have hnx : strk (l.take (i + 1)) = stp (strk (l.take i)) c := fold_take l i c hc'
      have hmis : ∀ (hh : strk (l.take (i + 1)) = strk (l.take i) ++ [c]), ∃ y, [some (V.str (S l)), some (.ref o), some (.str (S [c]))] = [some (V.str (S l)), some (.ref o), y] ∧ Same H (upd H2 o (.lst (sgV (strk (l.take i)) ++ [.str (S [c])]))) ∧ (upd H2 o (.lst (sgV (strk (l.take i)) ++ [.str (S [c])]))) o = some (.lst (sgV (strk (l.take (i + 1))))) := fun hh =>
        ⟨_, rfl, same_mut s1 no, by rw [upd_same, hh, sgV_snoc]⟩
      have low1 : ∀ d, Sg d → Txt.lower (S [d]) = S [lo1 d] := fun d hd => lower_S (l := [d]) (fun e he => by rw [List.mem_singleton] at he; subst he; exact hd)
      refine ⟨_, rfl, o, _, rfl, .inl (SqL.of ho), _, 0, rfl, rfl, _, rfl, ite2 (fun e => ?_) fun e => ?_⟩
      · have e1 : 0 < (strk (l.take i)).length := by
          have := of_decide_eq_true e
          rw [sgV_len] at this
          omega
        obtain ⟨a, d, had⟩ := snoc_of e1
        have hds : Sg d := hA d (by rw [had]; simp)
        have ho' : H2 o = some (.lst (sgV a ++ [.str (S [d])])) := by rw [ho, had, sgV_snoc]
        have miss : ∀ hd : ¬ d = swp c, ∃ y, [some (V.str (S l)), some (.ref o), some (.str (S [c]))] = [some (V.str (S l)), some (.ref o), y] ∧ Same H (upd H2 o (.lst (sgV (strk (l.take i)) ++ [.str (S [c])]))) ∧ (upd H2 o (.lst (sgV (strk (l.take i)) ++ [.str (S [c])]))) o = some (.lst (sgV (strk (l.take (i + 1))))) := fun hd => hmis (by rw [hnx, had, stp_miss hd])
        have sz : (sgV (strk (l.take i))).length < sizeLine := by rw [sgV_len]; exact smallL (by omega)
        refine ⟨_, rfl, 1, rfl, o, _, -1, _, rfl, rfl, SqL.of ho', atI_last _ _, _, rfl, rfl, _, rfl, ?_⟩
        by_cases hdc : d = c
        · have hd : ¬ d = swp c := fun z => ((swp_hit hcs hds).mpr z).1 hdc
          rw [show (!decide (V.str (S [d]) = V.str (S [c]))) = false by rw [decide_eq_true (show V.str (S [d]) = V.str (S [c]) by rw [hdc])]; rfl]
          refine iteF (iteF ?_)
          exact ⟨_, rfl, .inl ⟨rfl, _, .inl (.inl ho)⟩, _, rfl, o, _, _, rfl, rfl, ho, sz, miss hd⟩
        · rw [show (!decide (V.str (S [d]) = V.str (S [c]))) = true by rw [decide_eq_false (fun z => hdc (List.singleton_inj.mp (str_eq.mp z)))]; rfl]
          refine iteT ?_
          refine ⟨_, rfl, 1, rfl, o, _, -1, _, rfl, rfl, SqL.of ho', atI_last _ _, ⟨_, rfl⟩, _, rfl, rfl, one_le _, _, rfl, ⟨_, rfl⟩, _, rfl, rfl, one_le _, rfl, _, rfl, ?_⟩
          rw [low1 d hds, low1 c hcs]
          by_cases hd : d = swp c
          · have hlo := ((swp_hit hcs hds).mpr hd).2
            refine iteD (str_eq.mpr (by rw [hlo])) ?_
            refine ⟨_, rfl, .inl ⟨rfl, _, .inl (.inl ho')⟩, o, _, .str (S [d]), rfl, rfl, ho', by simp, ?_⟩
            refine ⟨_, rfl, same_mut s1 no, ?_⟩
            rw [upd_same, hnx, had, stp_hit hd]
            simp
          · refine iteND (fun z => hd ((swp_hit hcs hds).mp ⟨hdc, List.singleton_inj.mp (str_eq.mp z)⟩)) ?_
            exact ⟨_, rfl, .inl ⟨rfl, _, .inl (.inl ho)⟩, _, rfl, o, _, _, rfl, rfl, ho, sz, miss hd⟩
      · have e1 : strk (l.take i) = [] := by
          have h0 : ¬ (0 : Int) < ((sgV (strk (l.take i))).length : Int) := fun z => e (decide_eq_true z)
          rw [sgV_len] at h0
          exact List.length_eq_zero_iff.mp (by omega)
        refine ⟨_, rfl, .inl ⟨rfl, _, .inl (.inl ho)⟩, _, rfl, o, _, _, rfl, rfl, ho, ?_, ?_⟩
        · rw [sgV_len]; exact smallL (by omega)
        · exact hmis (by rw [hnx, e1]; rfl)
    · rintro σ H1 ⟨y, rfl, s1, ho⟩
      have hn : (S l).cps.size = l.length := by simp [S]
      rw [hn, List.take_of_length_le (Nat.le_refl _)] at ho
      have hlen := strk_len hsg
      refine ⟨⟨_, rfl⟩, _, rfl, S [], o, (strk l).map fun c => S [c], rfl, rfl, .inl (SqL.of (by rw [ho, List.map_map]; rfl)), ?_, ?_⟩
      · rw [sum_1, S_len]
        simp
        omega
      · rw [join_sg]
        exact q H1 s1

def sp_law_undone : Sp := fun vs H Q _ => ∃ l : List Nat, vs = [.str (S l)] ∧ AllSg l ∧ l.length ≤ 10000 ∧ ∀ H', Same H H' → Q (.str (S (inv l))) H'
theorem cal_law_undone (T : Txt K mg C) : Cal P w K mg base 1 "_law_undone" sp_law_undone := by
  refine cal_of T.d_law_undone sc_law_undone (fun vs H Q E h => ?_) fun f cdv A outer s H vs Q E hr h => ?_
  · obtain ⟨l, rfl, _⟩ := h
    rfl
  · obtain ⟨l, rfl, hsg, hl, q⟩ := h
    have nd := sc_law_undone.nd
    refine ⟨_, (pss_one (ps_ret (pe_join pe_str (pe_lc (own := [("_law_sign", 1)]) rfl nd (pi_str (pe_revS (pv 0))) (blkOk_by (own := [("_law_sign", 1)]) (N := N_law_undone) (sc := defScope s_law_undone) (by decide +kernel)) (fun _ _ _ _ _ => (pg_name (i := 1) nd rfl (Or.inl rfl))) (fun _ _ _ _ _ => pts_nil) (fun _ _ _ _ _ => (pe_ifExp (pt_cmpR op_ne (pv 1) (pe_lower (pv 1)) (nomark _)) (pe_lower (pv 1)) (pe_upper (pv 1)))))))), ?_⟩
    refine ⟨⟨_, rfl⟩, _, rfl, S l, rfl, by rw [S_len]; exact small (by omega), S l.reverse, rfl, fun D hD => ?_⟩
    refine lc_it walk_str (fun i H' => Same H H' ∧ H' D = some (.lst (sgV ((l.reverse.take i).map swp)))) ⟨same_upd hD, upd_same⟩ (fun _ _ _ _ => trivial) (fun i x H1 H2 hi hP hY => ?_) fun H1 hP => ?_
    · obtain ⟨s1, hL⟩ := hP
      obtain ⟨rfl, c, hc, rfl⟩ := hY
      have hc' : l.reverse[i]? = some c := by simpa using hc
      have hcs : Sg c := hsg c (List.mem_reverse.mp (List.mem_of_getElem? hc'))
      have hil : i < l.reverse.length := (List.getElem?_eq_some_iff.mp hc').1
      have low : Txt.lower (S [c]) = S [lo1 c] := lower_S (l := [c]) (fun e he => by rw [List.mem_singleton] at he; subst he; exact hcs)
      have upp : Txt.upper (S [c]) = S [up1 c] := upper_S (l := [c]) (fun e he => by rw [List.mem_singleton] at he; subst he; exact hcs)
      have hsz : (sgV ((l.reverse.take i).map swp)).length < sizeLine := by
        rw [List.length_reverse] at hil
        rw [sgV_len, List.length_map, List.length_take, List.length_reverse]
        exact smallL (by omega)
      have fin : Same H (upd H2 D (.lst (sgV ((l.reverse.take i).map swp) ++ [.str (S [swp c])]))) ∧ (upd H2 D (.lst (sgV ((l.reverse.take i).map swp) ++ [.str (S [swp c])]))) D = some (.lst (sgV ((l.reverse.take (i + 1)).map swp))) :=
        ⟨same_mut s1 hD, by rw [upd_same, List.take_add_one, hc', List.map_append, ← sgV_snoc]; rfl⟩
      refine ⟨rfl, ?_⟩
      refine ⟨_, rfl, _, rfl, ⟨_, rfl⟩, _, rfl, rfl, one_le _, rfl, _, rfl, ?_⟩
      rw [low]
      have hswp := swp_low hcs
      by_cases hcl : c = lo1 c
      · rw [show (!decide (V.str (S [c]) = V.str (S [lo1 c]))) = false by rw [decide_eq_true (show V.str (S [c]) = V.str (S [lo1 c]) by rw [← hcl])]; rfl]
        rw [if_neg (fun z => z hcl)] at hswp
        refine iteF ⟨_, rfl, ⟨_, rfl⟩, _, rfl, rfl, one_le _, _, hL, hsz, ?_⟩
        rw [upp, hswp]
        exact fin
      · rw [show (!decide (V.str (S [c]) = V.str (S [lo1 c]))) = true by rw [decide_eq_false (fun z => hcl (List.singleton_inj.mp (str_eq.mp z)))]; rfl]
        rw [if_pos hcl] at hswp
        refine iteT ⟨_, rfl, ⟨_, rfl⟩, _, rfl, rfl, one_le _, _, hL, hsz, ?_⟩
        rw [low, hswp]
        exact fin
    · obtain ⟨s1, hL⟩ := hP
      have hn : (S l.reverse).cps.size = l.reverse.length := by simp [S]
      rw [hn, List.take_of_length_le (Nat.le_refl _)] at hL
      refine ⟨S [], D, (inv l).map fun c => S [c], rfl, rfl, .inl (SqL.of (by rw [hL, List.map_map]; rfl)), ?_, ?_⟩
      · rw [sum_1, S_len]
        simp [inv]
        omega
      · rw [join_sg]
        exact q H1 s1
end K15
end
section
set_option maxRecDepth 100000
set_option maxHeartbeats 4000000
namespace K15
open PySem PySem.Spec PyProof.Rows L2
variable {P : Program} {w : World} {K : PySem.W.Frag} {mg : Str → Option Value} {base : Heap} {C : Addr}
theorem walk_enumT {K : PySem.W.Frag} {a : Addr} {xs : List V} : Walk (IteT K a) xs.length (fun H => SqT K H a xs) (YPair (fun i => some (.int (i : Nat))) (fun i => xs[i]?)) := by
  refine ⟨fun i _ hi q => ⟨xs, xs[i], q, by simp [hi]⟩, fun _ q => ⟨xs, q, Nat.le_refl _⟩, fun i H v H' _ q y => ?_⟩
  obtain ⟨T, x, h1, h2, h3, h4⟩ := y
  exact ⟨T, .int (i : Nat), x, h1, h2, h3, rfl, h4 xs q⟩
theorem ne1 : ¬ (("height" : Str) = "boxes") := by decide +kernel
theorem ne2 : ¬ (("height" : Str) = "width") := by decide +kernel
theorem ne3 : ¬ (("height" : Str) = "kept_told") := by decide +kernel
theorem ne4 : ¬ (("width" : Str) = "kept_told") := by decide +kernel
theorem ne5 : ¬ (("kept_told" : Str) = "boxes") := by decide +kernel
theorem putF_len (f : Str) (v : V) : ∀ fs : List (Str × V), (putF f v fs).length ≤ fs.length + 1
  | [] => by simp [putF]
  | (k, x) :: r => by
    unfold putF
    split
    · simp
    · have := putF_len f v r
      simp only [List.length_cons]
      omega
def fl1 (a : Addr) : List (Str × V) := putF "boxes" (.ref a) []
def fl2 (a : Addr) (h : Int) : List (Str × V) := putF "height" (.int h) (fl1 a)
def fl3 (a : Addr) (h w : Int) : List (Str × V) := putF "width" (.int w) (fl2 a h)
def fl4 (a : Addr) (h w : Int) (d : Addr) : List (Str × V) := putF "kept_told" (.ref d) (fl3 a h w)
theorem fl_len (a : Addr) (h w : Int) (d : Addr) : (fl1 a).length ≤ 1 ∧ (fl2 a h).length ≤ 2 ∧ (fl3 a h w).length ≤ 3 ∧ (fl4 a h w d).length ≤ 4 := by
  have h1 : (fl1 a).length ≤ 1 := putF_len _ _ _
  have h2 : (fl2 a h).length ≤ (fl1 a).length + 1 := putF_len _ _ _
  have h3 : (fl3 a h w).length ≤ (fl2 a h).length + 1 := putF_len _ _ _
  have h4 : (fl4 a h w d).length ≤ (fl3 a h w).length + 1 := putF_len _ _ _
  omega
theorem fl_h (a : Addr) (h w : Int) (d : Addr) : (fl4 a h w d).lookup ("height" : Str) = some (.int h) := by
  unfold fl4 fl3 fl2
  rw [lookup_putF, if_neg ne3, lookup_putF, if_neg ne2, lookup_putF, if_pos rfl]
theorem fl_w (a : Addr) (h w : Int) (d : Addr) : (fl4 a h w d).lookup ("width" : Str) = some (.int w) := by
  unfold fl4 fl3
  rw [lookup_putF, if_neg ne4, lookup_putF, if_pos rfl]
theorem fl_t (a : Addr) (h w : Int) (d : Addr) : (fl4 a h w d).lookup ("kept_told" : Str) = some (.ref d) := by
  unfold fl4
  rw [lookup_putF, if_pos rfl]

def sp_t_keep (C : Addr) : Sp := fun vs H Q _ => ∃ (p dx a : Addr) (bx : Bxs) (wd : Nat), vs = [.ref p, .ref a] ∧ H p = some (.ins C dx []) ∧ TabAt H a bx ∧ GoodB bx wd ∧
  ∀ H', (∀ b o, H b = some o → b ≠ p → H' b = some o) → TblAt C H' p bx wd → Q .non H'
theorem getD_of {α : Type} {l : List α} {i : Nat} {x d : α} (h : l[i]? = some x) : l.getD i d = x := by
  rw [List.getD_eq_getElem?_getD, h]
  rfl
theorem tab_row {H : Hp} {rs : List Addr} {mk : List V → HO} {bx : Bxs} {i : Nat} {v : V} (R : RowsAt H rs mk bx) (h : (rs.map V.ref)[i]? = some v) : ∃ r row, v = .ref r ∧ rs[i]? = some r ∧ bx[i]? = some row ∧ H r = some (mk (row.map optV)) := by
  rw [List.getElem?_map, Option.map_eq_some_iff] at h
  obtain ⟨r, hr, rfl⟩ := h
  have hi : i < rs.length := (List.getElem?_eq_some_iff.mp hr).1
  have hb : i < bx.length := by rw [← R.1]; exact hi
  exact ⟨r, bx[i], rfl, hr, List.getElem?_eq_getElem hb, R.2 i r _ hr (List.getElem?_eq_getElem hb)⟩
theorem row_box {row : List (Option Str)} {i : Nat} {v : V} (h : (row.map optV)[i]? = some v) : ∃ o, row[i]? = some o ∧ v = optV o := by
  rw [List.getElem?_map, Option.map_eq_some_iff] at h
  obtain ⟨o, ho, rfl⟩ := h
  exact ⟨o, ho, rfl⟩
theorem met_keep (T : Txt K mg C) : Met P w K mg base 1 C "keep" (sp_t_keep C) := by
  refine met_of T.cl T.k_Table sc_t_keep (fun vs H Q E h => ?_) fun f cdv A outer s H vs Q E hr h => ?_
  · obtain ⟨p, dx, a, bx, wd, rfl, _⟩ := h
    rfl
  · obtain ⟨p, dx, a, bx, wd, rfl, hp, ⟨rs, ha, R⟩, G, q⟩ := h
    have nd := sc_t_keep.nd
    have hu := hu_of hr
    refine ⟨_, (pss_cons (ps_fld (pv 0) (pv 1) rfl)
(pss_cons (ps_fld (pv 0) (pe_callB call_len_seq (by rfl) T.b_len PySem.boot_len (pa_cons (pv 1) pa_nil)) rfl)
(pss_cons (ps_fld (pv 0) (pe_callB call_len_seq (by rfl) T.b_len PySem.boot_len (pa_cons (pe_ix ix_tup (pv 1) pe_int (fun _ _ => rfl)) pa_nil)) rfl)
(pss_cons (ps_fld (pv 0) pe_dnewT rfl)
(pss_one (ps_for PassesOwn.never rfl (pi_enumT (by rfl) T.b_enumerate (pa_cons (pv 1) pa_nil)) (pg_tup rfl (pgs_cons (pg_name (i := 2) nd rfl (Or.inl rfl)) (pgs_cons (pg_name (i := 3) nd rfl (Or.inl rfl)) pgs_nil)))
(pss_one (ps_for PassesOwn.never rfl (pi_enumT (by rfl) T.b_enumerate (pa_cons (pv 3) pa_nil)) (pg_tup rfl (pgs_cons (pg_name (i := 4) nd rfl (Or.inl rfl)) (pgs_cons (pg_name (i := 5) nd rfl (Or.inl rfl)) pgs_nil)))
(pss_one (ps_if (pt_cmp (pc_notN (pv 5)))
(pss_one (ps_dput hu (pe_fld (pv 0) rfl) (pe_tup (pa_cons (pv 2) (pa_cons (pv 4) pa_nil))) (pv 5) rfl))
pss_nil)))))))))), ?_⟩
    have hn : (rs.map V.ref).length = bx.length := by rw [List.length_map]; exact R.1
    obtain ⟨r0, row0, _, hr0, hb0, hrow0⟩ := tab_row (i := 0) R (List.getElem?_eq_getElem (by rw [hn]; exact G.h1))
    have hw0 : row0.length = wd := G.rows row0 (List.mem_of_getElem? hb0)
    have nap : a ≠ p := ne_of ha hp (by intro z; cases z)
    have nrp : r0 ≠ p := ne_of hrow0 hp (by intro z; cases z)
    obtain ⟨l1, l2, l3, l4⟩ := fl_len a (bx.length : Int) (wd : Int) 0
    -- self.boxes = boxes
    refine ⟨_, rfl, _, rfl, p, C, dx, [], rfl, hp, T.cl, T.nB, (by show 0 < 1000; decide), ?_⟩
    have s1 : ∀ o : HO, ∀ b u, H b = some u → b ≠ p → upd H p o b = some u := fun o b u e hb => by rw [upd_ne hb]; exact e
    -- self.height = len(boxes)
    refine ⟨_, rfl, a, _, rfl, .inr (SqT.of (s1 _ _ _ ha nap)), _, rfl, p, C, dx, fl1 a, rfl, upd_same, T.cl, T.nH, by omega, ?_⟩
    rw [upd_upd, hn]
    -- self.width = len(boxes[0])
    refine ⟨_, rfl, a, _, 0, .ref r0, rfl, rfl, SqT.of (s1 _ _ _ ha nap), atI_nat (j := 0) (by rw [List.getElem?_map, hr0]; rfl), r0, _, rfl, .inr (SqT.of (s1 _ _ _ hrow0 nrp)), _, rfl, p, C, dx, fl2 a _, rfl, upd_same, T.cl, T.nW, by omega, ?_⟩
    rw [upd_upd, List.length_map, hw0]
    -- self.kept_told = {}
    intro d hd
    have npd : p ≠ d := by intro z; subst z; rw [upd_same] at hd; cases hd
    have hd0 : H d = none := by rw [upd_ne npd.symm] at hd; exact hd
    refine ⟨_, rfl, p, C, dx, fl3 a _ _, rfl, by rw [upd_ne npd, upd_same]; rfl, T.cl, T.nT, by omega, ?_⟩
    -- the loops
    generalize hH1 : upd (upd (upd H p (.ins C dx (putF "width" (.int (wd : Int)) (fl2 a (bx.length : Int))))) d (.dT [])) p (.ins C dx (putF "kept_told" (.ref d) (fl3 a (bx.length : Int) (wd : Int)))) = H1
    have hp1 : H1 p = some (.ins C dx (fl4 a bx.length wd d)) := by rw [← hH1, upd_same]; rfl
    have hd1 : H1 d = some (.dT (toldKV (tabT bx 0))) := by rw [← hH1, upd_ne npd.symm, upd_same]; rfl
    have k1 : ∀ b o, H b = some o → b ≠ p → H1 b = some o := fun b o e hb => by
      rw [← hH1, upd_ne hb, upd_ne (ne_of_none e hd0), upd_ne hb]; exact e
    have keepL : ∀ {H2 T : _} {u : HO}, H2 T = none → (∀ b o, H b = some o → b ≠ p → H2 b = some o) → ∀ b o, H b = some o → b ≠ p → upd H2 T u b = some o := fun {H2 T u} hT k b o e hb => by
      rw [upd_ne (ne_of_none (k b o e hb) hT)]; exact k b o e hb
    refine ⟨_, rfl, a, _, rfl, SqT.of (k1 _ _ ha nap), ?_⟩
    refine for_it walk_enumT (fun i σ H2 => ∃ y2 y3 y4 y5, σ = [some (.ref p), some (.ref a), y2, y3, y4, y5] ∧ (∀ b o, H b = some o → b ≠ p → H2 b = some o) ∧ H2 p = some (.ins C dx (fl4 a bx.length wd d)) ∧ H2 d = some (.dT (toldKV (tabT bx i))))
      ⟨none, none, none, none, rfl, k1, hp1, hd1⟩ (fun i σ H2 _ ⟨_, _, _, _, _, k, _⟩ => SqT.of (k _ _ ha nap)) ?_ ?_
    · rintro i x σ H2 H3 hi ⟨y2, y3, y4, y5, rfl, k2, hp2, hd2⟩ ⟨T1, x1, x2, rfl, nT, rfl, e1, e2⟩
      cases e1
      obtain ⟨r, row, rfl, hri, hbi, hrow⟩ := tab_row R e2
      have nr : r ≠ p := ne_of hrow hp (by intro z; cases z)
      have hgd : bx.getD i [] = row := getD_of hbi
      refine ⟨T1, _, rfl, SqT.of upd_same, rfl, _, _, rfl, _, _, rfl, rfl, ?_⟩
      have k3 := keepL (u := .tup [.int (i : Nat), .ref r]) nT k2
      refine ⟨_, rfl, r, _, rfl, SqT.of (k3 _ _ hrow nr), ?_⟩
      refine for_it walk_enumT (fun j σ H4 => ∃ y4 y5, σ = [some (.ref p), some (.ref a), some (.int (i : Nat)), some (.ref r), y4, y5] ∧ (∀ b o, H b = some o → b ≠ p → H4 b = some o) ∧ H4 p = some (.ins C dx (fl4 a bx.length wd d)) ∧ H4 d = some (.dT (toldKV (tabT bx i ++ rowT i row j))))
        ⟨y4, y5, rfl, k3, by rw [upd_ne (ne_of_none hp2 nT)]; exact hp2, by rw [upd_ne (ne_of_none hd2 nT), hd2]; simp [rowT]⟩ (fun j σ H4 _ ⟨_, _, _, k, _⟩ => SqT.of (k _ _ hrow nr)) ?_ ?_
      · rintro j x σ H4 H5 hj ⟨y4, y5, rfl, k4, hp4, hd4⟩ ⟨T2, z1, z2, rfl, nT2, rfl, f1, f2⟩
        cases f1
        obtain ⟨o, ho, rfl⟩ := row_box f2
        have hgo : row.getD j none = o := getD_of ho
        refine ⟨T2, _, rfl, SqT.of upd_same, rfl, _, _, rfl, _, _, rfl, rfl, ?_⟩
        have k5 := keepL (u := .tup [.int (j : Nat), optV o]) nT2 k4
        have hp5 : (upd H4 T2 (.tup [.int (j : Nat), optV o])) p = some (.ins C dx (fl4 a bx.length wd d)) := by rw [upd_ne (ne_of_none hp4 nT2)]; exact hp4
        have hd5 : (upd H4 T2 (.tup [.int (j : Nat), optV o])) d = some (.dT (toldKV (tabT bx i ++ rowT i row j))) := by rw [upd_ne (ne_of_none hd4 nT2)]; exact hd4
        refine ⟨_, rfl, _, rfl, ?_⟩
        cases o with
        | none =>
          refine iteF ⟨_, _, rfl, k5, hp5, ?_⟩
          rw [rowT_succ, hgo, List.append_nil]
          exact hd5
        | some z =>
          refine iteT ?_
          refine ⟨_, rfl, _, rfl, p, C, dx, _, _, rfl, hp5, T.cl, T.nT, fl_t a _ _ d, _, rfl, _, rfl, small (by show 2 ≤ 100000; decide), fun k nk => ?_⟩
          have hsz : (toldKV (tabT bx i ++ rowT i row j)).length < sizeLine := by
            have h1 := tabT_len G i
            have h2 := rowT_len i row j
            have h3 := G.h2
            have h4 : j < (row.map optV).length := hj
            have h5 := G.rows row (List.mem_of_getElem? hbi)
            have h6 := G.w2
            have h7 : i < (rs.map V.ref).length := hi
            rw [List.length_map] at h4
            rw [hn] at h7
            rw [toldKV_len, List.length_append]
            exact smallL (by omega)
          have ndk : d ≠ k := ne_of_none hd5 nk
          refine ⟨d, _, rfl, DPut.t (k := keyK (i, j)) (by rw [upd_ne ndk]; exact hd5) upd_same hsz, _, _, rfl, ?_, ?_, ?_⟩
          · intro b u e hb
            rw [upd_ne (ne_of_none e hd0)]
            exact keepL nk k5 b u e hb
          · rw [upd_ne npd, upd_ne (ne_of_none hp5 nk)]
            exact hp5
          · rw [upd_same]
            show some (HO.dT (putK (toldKV _) (keyK (i, j)) (V.str z))) = _
            rw [toldKV_snoc _ _ _ part_ne, rowT_succ, hgo, List.append_assoc]
      · rintro σ H4 ⟨y4, y5, rfl, k4, hp4, hd4⟩
        refine ⟨_, _, _, _, rfl, k4, hp4, ?_⟩
        rw [tabT_succ, hgd, hd4, List.length_map]
    · rintro σ H2 ⟨y2, y3, y4, y5, rfl, k2, hp2, hd2⟩
      rw [hn] at hd2
      exact q H2 k2 ⟨dx, d, _, hp2, fl_h a _ _ d, fl_w a _ _ d, fl_t a _ _ d, hd2⟩
end K15
end
section
set_option maxRecDepth 100000
set_option maxHeartbeats 4000000
namespace K15
open PySem PySem.Spec PyProof.Rows L2
variable {P : Program} {w : World} {K : PySem.W.Frag} {mg : Str → Option Value} {base : Heap} {C : Addr}
def sp_t_init (C : Addr) : Sp := sp_t_keep C
theorem mak_Table (T : Txt K mg C) : Mak P w K mg base 5 "Table" C (sp_t_init C) := by
  have c_is_row := cal_is_row (P := P) (w := w) (base := base) T
  have c_is_box_text := cal_is_box_text (P := P) (w := w) (base := base) T
  have m_keep := met_keep (P := P) (w := w) (base := base) T
  refine mak_of T.mgC T.mks T.kc T.i_Table sc_t_init (fun vs H Q E h => ?_) fun f cdv A outer s H vs Q E hr h => ?_
  · obtain ⟨p, dx, a, bx, wd, rfl, _⟩ := h
    rfl
  · obtain ⟨p, dx, a, bx, wd, rfl, hp, ⟨rs, ha, R⟩, G, q⟩ := h
    have nd := sc_t_init.nd
    refine ⟨_, (pss_cons (ps_if (pt_not (pt_val (pe_c c_is_row hr (by decide) (by rfl) (pa_cons (pv 1) pa_nil))))
(pss_one ps_never)
pss_nil)
(pss_cons (ps_for PassesOwn.never rfl (pi_enumT (by rfl) T.b_enumerate (pa_cons (pv 1) pa_nil)) (pg_tup rfl (pgs_cons (pg_name (i := 2) nd rfl (Or.inl rfl)) (pgs_cons (pg_name (i := 3) nd rfl (Or.inl rfl)) pgs_nil)))
(pss_one (ps_if (PW.pt (pw_or (pt_not (pt_val (pe_c c_is_row hr (by decide) (by rfl) (pa_cons (pv 3) pa_nil)))) (pw_or1 (pt_cmpR op_ne (pe_callB call_len_seq (by rfl) T.b_len PySem.boot_len (pa_cons (pv 3) pa_nil)) (pe_callB call_len_seq (by rfl) T.b_len PySem.boot_len (pa_cons (pe_ix ix_tup (pv 1) pe_int (fun _ _ => rfl)) pa_nil)) (nomark _)))))
(pss_one ps_never)
pss_nil)))
(pss_cons (ps_for PassesOwn.never rfl (pi_enumT (by rfl) T.b_enumerate (pa_cons (pv 1) pa_nil)) (pg_tup rfl (pgs_cons (pg_name (i := 2) nd rfl (Or.inl rfl)) (pgs_cons (pg_name (i := 3) nd rfl (Or.inl rfl)) pgs_nil)))
(pss_one (ps_for PassesOwn.never rfl (pi_enumT (by rfl) T.b_enumerate (pa_cons (pv 3) pa_nil)) (pg_tup rfl (pgs_cons (pg_name (i := 4) nd rfl (Or.inl rfl)) (pgs_cons (pg_name (i := 5) nd rfl (Or.inl rfl)) pgs_nil)))
(pss_one (ps_if (pt_not (pt_val (pe_c c_is_box_text hr (by decide) (by rfl) (pa_cons (pv 5) pa_nil))))
(pss_one ps_never)
pss_nil)))))
(pss_one (ps_expr (pe_mt m_keep hr (by decide) (pv 0) (pa_cons (pv 1) pa_nil))))))), ?_⟩
    have hn : (rs.map V.ref).length = bx.length := by rw [List.length_map]; exact R.1
    have g1 := G.h1
    have g2 := G.h2
    have g3 := G.w1
    have g4 := G.w2
    obtain ⟨r0, row0, _, hr0, hb0, hrow0⟩ := tab_row (i := 0) R (List.getElem?_eq_getElem (by rw [hn]; exact G.h1))
    have hw0 : row0.length = wd := G.rows row0 (List.mem_of_getElem? hb0)
    refine ⟨_, rfl, a, _, rfl, ha, by omega, by omega, true, rfl, iteF ?_⟩
    refine ⟨_, rfl, a, _, rfl, SqT.of ha, ?_⟩
    refine for_it walk_enumT (fun i σ H2 => ∃ y2 y3 y4 y5, σ = [some (.ref p), some (.ref a), y2, y3, y4, y5] ∧ Same H H2)
      ⟨none, none, none, none, rfl, Same.refl H⟩ (fun i σ H2 _ ⟨_, _, _, _, _, k⟩ => SqT.of (k _ _ ha)) ?_ ?_
    · rintro i x σ H2 H3 hi ⟨y2, y3, y4, y5, rfl, k2⟩ ⟨T1, x1, x2, rfl, nT, rfl, e1, e2⟩
      cases e1
      obtain ⟨r, row, rfl, hri, hbi, hrow⟩ := tab_row R e2
      have hwr : row.length = wd := G.rows row (List.mem_of_getElem? hbi)
      refine ⟨T1, _, rfl, SqT.of upd_same, rfl, _, _, rfl, _, _, rfl, rfl, ?_⟩
      have k3 := same_new (o := .tup [.int (i : Nat), .ref r]) k2 nT
      refine ⟨_, rfl, r, _, rfl, k3 _ _ hrow, by rw [List.length_map]; omega, by rw [List.length_map]; omega, true, rfl, iteF ?_⟩
      refine ⟨_, rfl, r, _, rfl, .inr (SqT.of (k3 _ _ hrow)), _, rfl, a, _, 0, .ref r0, rfl, rfl, SqT.of (k3 _ _ ha), atI_nat (j := 0) (by rw [List.getElem?_map, hr0]; rfl), r0, _, rfl, .inr (SqT.of (k3 _ _ hrow0)), rfl, _, rfl, ?_⟩
      rw [List.length_map, List.length_map, hwr, hw0]
      rw [show (!decide (V.int (wd : Int) = V.int (wd : Int))) = false by simp]
      refine iteF ?_
      exact ⟨_, _, _, _, rfl, k3⟩
    · rintro σ H1 ⟨y2, y3, y4, y5, rfl, k1⟩
      refine ⟨_, rfl, a, _, rfl, SqT.of (k1 _ _ ha), ?_⟩
      refine for_it walk_enumT (fun i σ H2 => ∃ y2 y3 y4 y5, σ = [some (.ref p), some (.ref a), y2, y3, y4, y5] ∧ Same H H2)
        ⟨_, _, _, _, rfl, k1⟩ (fun i σ H2 _ ⟨_, _, _, _, _, k⟩ => SqT.of (k _ _ ha)) ?_ ?_
      · rintro i x σ H2 H3 hi ⟨y2, y3, y4, y5, rfl, k2⟩ ⟨T1, x1, x2, rfl, nT, rfl, e1, e2⟩
        cases e1
        obtain ⟨r, row, rfl, hri, hbi, hrow⟩ := tab_row R e2
        refine ⟨T1, _, rfl, SqT.of upd_same, rfl, _, _, rfl, _, _, rfl, rfl, ?_⟩
        have k3 := same_new (o := .tup [.int (i : Nat), .ref r]) k2 nT
        refine ⟨_, rfl, r, _, rfl, SqT.of (k3 _ _ hrow), ?_⟩
        refine for_it walk_enumT (fun j σ H4 => ∃ y4 y5, σ = [some (.ref p), some (.ref a), some (.int (i : Nat)), some (.ref r), y4, y5] ∧ Same H H4)
          ⟨_, _, rfl, k3⟩ (fun j σ H4 _ ⟨_, _, _, k⟩ => SqT.of (k _ _ hrow)) ?_ ?_
        · rintro j x σ H4 H5 hj ⟨y4, y5, rfl, k4⟩ ⟨T2, z1, z2, rfl, nT2, rfl, f1, f2⟩
          cases f1
          obtain ⟨o, ho, rfl⟩ := row_box f2
          refine ⟨T2, _, rfl, SqT.of upd_same, rfl, _, _, rfl, _, _, rfl, rfl, ?_⟩
          have k5 := same_new (o := .tup [.int (j : Nat), optV o]) k4 nT2
          refine ⟨_, rfl, o, rfl, fun z hz => G.forms row (List.mem_of_getElem? hbi) z (by rw [← hz]; exact List.mem_of_getElem? ho), fun H6 s6 => ?_⟩
          exact ⟨true, rfl, iteF ⟨_, _, rfl, k5.trans s6⟩⟩
        · rintro σ H4 ⟨y4, y5, rfl, k4⟩
          exact ⟨_, _, _, _, rfl, k4⟩
      · rintro σ H2 ⟨y2, y3, y4, y5, rfl, k2⟩
        refine ⟨_, rfl, p, dx, _, rfl, k2 _ _ hp, rfl, _, rfl, p, dx, a, bx, wd, rfl, k2 _ _ hp, ⟨rs, k2 _ _ ha, R.same k2⟩, G, fun H3 k3 ht => ?_⟩
        exact q H3 (fun b o e hb => k3 b o (k2 _ _ e) hb) ht
end K15
end
section
set_option maxRecDepth 100000
set_option maxHeartbeats 4000000
namespace K15
open PySem PySem.Spec PyProof.Rows L2
variable {P : Program} {w : World} {K : PySem.W.Frag} {mg : Str → Option Value} {base : Heap} {C : Addr}
/-! ### the spreading as it stands in the heap -/
def ndAt (q : List Nd) (k : Bool) (i : Nat) : Option (List Bx) := (q.find? fun e => e.1 == k && e.2.1 == i).map fun e => e.2.2
theorem ndAt_snoc (q : List Nd) (k k' : Bool) (i i' : Nat) (p : List Bx) : ndAt (q ++ [(k', i', p)]) k i = (ndAt q k i).or (if k' = k ∧ i' = i then some p else none) := by
  unfold ndAt
  rw [List.find?_append]
  cases h : q.find? fun e => e.1 == k && e.2.1 == i with
  | some e => rfl
  | none =>
    by_cases hh : k' = k ∧ i' = i
    · obtain ⟨rfl, rfl⟩ := hh
      simp
    · rw [if_neg hh]
      have : (k' == k && i' == i) = false := by
        rw [Bool.and_eq_false_iff]
        by_cases h1 : k' = k
        · right
          exact beq_eq_false_iff_ne.mpr fun z => hh ⟨h1, z⟩
        · left
          exact beq_eq_false_iff_ne.mpr h1
      simp [List.find?_cons, this]
theorem ndAt_has (q : List Nd) (k : Bool) (i : Nat) : (ndAt q k i).isSome = hasN q k i := by
  unfold ndAt hasN
  rw [Option.isSome_map]
  induction q with
  | nil => rfl
  | cons e q ih =>
    rw [List.find?_cons, List.any_cons]
    cases h : (e.1 == k && e.2.1 == i) with
    | true => rfl
    | false => rw [Bool.false_or]; exact ih
theorem ndAt_mem {q : List Nd} {k : Bool} {i : Nat} {p : List Bx} (h : ndAt q k i = some p) : (k, i, p) ∈ q := by
  unfold ndAt at h
  rw [Option.map_eq_some_iff] at h
  obtain ⟨e, he, rfl⟩ := h
  have h1 := List.find?_some he
  have h2 := List.mem_of_find?_eq_some he
  simp only [Bool.and_eq_true, beq_iff_eq] at h1
  obtain ⟨rfl, rfl⟩ := h1
  exact h2
theorem ndAt_of {L : List Bx} {root : Nat} {q : List Nd} (I : Inv0 L root q) {k : Bool} {i : Nat} {p : List Bx} (h : (k, i, p) ∈ q) : ndAt q k i = some p := by
  have hs : (ndAt q k i).isSome = true := by rw [ndAt_has]; exact hasN_iff.mpr ⟨p, h⟩
  obtain ⟨p', hp⟩ := Option.isSome_iff_exists.mp hs
  rw [hp, I.uq k i p p' h (ndAt_mem hp)]
/-- what a dict answers of a node -/
def PV (H : Hp) (o : Option (List Bx)) (v : Option V) : Prop := match o with
  | none => v = none
  | some p => ∃ x, v = some x ∧ ((p = [] ∧ x = .non) ∨ ∃ (a : Addr) (p' : List Bx) (b : Bx), p = p' ++ [b] ∧ x = .ref a ∧ H a = some (tupB b))
def DAt (H : Hp) (d : Addr) (q : List Nd) (k : Bool) : Prop := ∃ kvs : List (Key × V), H d = some (.dK kvs) ∧ kvs.length ≤ q.length ∧ ∀ i : Nat, PV H (ndAt q k i) (valV kvs (Sum.inl (i : Int)))
abbrev Tp (H H' : Hp) : Prop := ∀ a xs, H a = some (.tup xs) → H' a = some (.tup xs)
theorem PV.to {H H' : Hp} {o : Option (List Bx)} {v : Option V} (h : PV H o v) (s : Tp H H') : PV H' o v := by
  cases o with
  | none => exact h
  | some p =>
    obtain ⟨x, e, h⟩ := h
    refine ⟨x, e, ?_⟩
    rcases h with h | ⟨a, p', b, h1, h2, h3⟩
    · exact .inl h
    · exact .inr ⟨a, p', b, h1, h2, s _ _ h3⟩
theorem DAt.to {H H' : Hp} {d : Addr} {q : List Nd} {k : Bool} (h : DAt H d q k) (s1 : ∀ kvs, H d = some (.dK kvs) → H' d = some (.dK kvs)) (s : Tp H H') : DAt H' d q k := by
  obtain ⟨kvs, e, l, hv⟩ := h
  exact ⟨kvs, s1 _ e, l, fun i => (hv i).to s⟩
theorem DAt.get {H : Hp} {d : Addr} {q : List Nd} {k : Bool} (h : DAt H d q k) (i : Nat) : ∃ o, DGet H d (.int (i : Int)) o ∧ PV H (ndAt q k i) o := by
  obtain ⟨kvs, e, l, hv⟩ := h
  exact ⟨_, DGet.k (k := Sum.inl (i : Int)) e, hv i⟩
theorem DAt.has {H : Hp} {d : Addr} {q : List Nd} {k : Bool} (h : DAt H d q k) (i : Nat) : ∃ o, DGet H d (.int (i : Int)) o ∧ o.isSome = hasN q k i := by
  obtain ⟨o, g, hv⟩ := h.get i
  refine ⟨o, g, ?_⟩
  rw [← ndAt_has]
  cases hn : ndAt q k i with
  | none =>
    rw [hn] at hv
    rw [show o = none from hv]
    rfl
  | some p =>
    rw [hn] at hv
    obtain ⟨x, rfl, _⟩ := hv
    rfl
theorem putLen (c : List (Key × V)) (k : Key) (x : V) : (putK c k x).length ≤ c.length + 1 := by
  cases h : valV c k with
  | none => rw [putK_new _ h]; simp
  | some y =>
    unfold putK
    split
    · simp
    · simp
/-- the dict of the kind gets a node more -/
theorem DAt.put {H : Hp} {d : Addr} {q : List Nd} {k : Bool} (h : DAt H d q k) {i : Nat} {p : List Bx} {b : Bx} {a : Addr} (hn : hasN q k i = false) (ha : H a = some (tupB b)) (hq : q.length ≤ 1000) :
    ∃ H', DPut H d (.int (i : Int)) (.ref a) H' ∧ DAt H' d (q ++ [(k, i, p ++ [b])]) k ∧ ∃ o, H' = upd H d o ∧ ∃ kvs, o = .dK kvs := by
  obtain ⟨kvs, e, l, hv⟩ := h
  refine ⟨_, DPut.k (k := Sum.inl (i : Int)) e (smallL (by omega)), ?_, _, rfl, _, rfl⟩
  have nad : a ≠ d := ne_of ha e (by intro z; cases z)
  have tp : Tp H (upd H d (.dK (putK kvs (Sum.inl (i : Int)) (.ref a)))) := fun c xs hc => by
    rw [upd_ne (ne_of hc e (by intro z; cases z))]
    exact hc
  refine ⟨_, upd_same, ?_, fun j => ?_⟩
  · have := putLen kvs (Sum.inl (i : Int)) (V.ref a)
    rw [List.length_append]
    simp only [List.length_cons, List.length_nil]
    omega
  · rw [valV_put, ndAt_snoc]
    by_cases hj : i = j
    · subst hj
      have h0 : ndAt q k i = none := by
        have := ndAt_has q k i
        rw [hn] at this
        exact Option.isSome_eq_false_iff.mp this |> Option.isNone_iff_eq_none.mp
      rw [h0, if_pos rfl, if_pos ⟨rfl, rfl⟩]
      exact ⟨_, rfl, .inr ⟨a, p, b, rfl, rfl, tp _ _ ha⟩⟩
    · rw [if_neg (fun z : (Sum.inl (j : Int) : Key) = Sum.inl (i : Int) => hj (by have := Sum.inl.inj z; omega)), if_neg (fun z : k = k ∧ i = j => hj z.2), Option.or_none]
      exact (hv j).to tp
/-- a node of the other kind -/
theorem DAt.other {H : Hp} {d : Addr} {q : List Nd} {k k' : Bool} (h : DAt H d q k) (hk : k' ≠ k) (i : Nat) (p : List Bx) : DAt H d (q ++ [(k', i, p)]) k := by
  obtain ⟨kvs, e, l, hv⟩ := h
  refine ⟨kvs, e, by rw [List.length_append]; omega, fun j => ?_⟩
  rw [ndAt_snoc, if_neg (fun z => hk z.1), Option.or_none]
  exact hv j
def kindS (k : Bool) : Str := if k then "row" else "column"
def WaitAt (H : Hp) (l : Addr) (q : List Nd) : Prop := ∃ as : List Addr, H l = some (.lst (as.map V.ref)) ∧ as.length = q.length ∧ ∀ (i : Nat) (a : Addr) (e : Nd), as[i]? = some a → q[i]? = some e → H a = some (.tup [.str (kindS e.1), .int (e.2.1 : Int)])
theorem WaitAt.to {H H' : Hp} {l : Addr} {q : List Nd} (h : WaitAt H l q) (s1 : ∀ xs, H l = some (.lst xs) → H' l = some (.lst xs)) (s : Tp H H') : WaitAt H' l q := by
  obtain ⟨as, e, n, h⟩ := h
  exact ⟨as, s1 _ e, n, fun i a e h1 h2 => s _ _ (h i a e h1 h2)⟩
theorem WaitAt.get {H : Hp} {l : Addr} {q : List Nd} (h : WaitAt H l q) {i : Nat} {e : Nd} (he : q[i]? = some e) : ∃ (xs : List V) (a : Addr), H l = some (.lst xs) ∧ xs.length = q.length ∧ xs[i]? = some (.ref a) ∧ H a = some (.tup [.str (kindS e.1), .int (e.2.1 : Int)]) := by
  obtain ⟨as, e1, n, h⟩ := h
  have hi : i < as.length := by rw [n]; exact (List.getElem?_eq_some_iff.mp he).1
  refine ⟨_, as[i], e1, by rw [List.length_map]; exact n, ?_, h i _ e (List.getElem?_eq_getElem hi) he⟩
  rw [List.getElem?_map, List.getElem?_eq_getElem hi]
  rfl
theorem WaitAt.len {H : Hp} {l : Addr} {q : List Nd} (h : WaitAt H l q) : ∃ xs : List V, H l = some (.lst xs) ∧ xs.length = q.length := by
  obtain ⟨as, e1, n, h⟩ := h
  exact ⟨_, e1, by rw [List.length_map]; exact n⟩
theorem WaitAt.put {H : Hp} {l : Addr} {q : List Nd} (h : WaitAt H l q) {e : Nd} {a : Addr} (ha : H a = some (.tup [.str (kindS e.1), .int (e.2.1 : Int)])) : ∃ xs : List V, H l = some (.lst xs) ∧ xs.length = q.length ∧ WaitAt (upd H l (.lst (xs ++ [.ref a]))) l (q ++ [e]) := by
  obtain ⟨as, e1, n, h⟩ := h
  refine ⟨_, e1, by rw [List.length_map]; exact n, as ++ [a], by rw [upd_same, List.map_append]; rfl, by simp [n], fun i a' e' h1 h2 => ?_⟩
  have up : ∀ c xs, H c = some (.tup xs) → upd H l (.lst (as.map V.ref ++ [.ref a])) c = some (.tup xs) := fun c xs hc => by
    rw [upd_ne (ne_of hc e1 (by intro z; cases z))]
    exact hc
  by_cases hi : i < as.length
  · rw [List.getElem?_append_left hi] at h1
    rw [List.getElem?_append_left (by omega)] at h2
    exact up _ _ (h i a' e' h1 h2)
  · rw [List.getElem?_append_right (by omega)] at h1
    rw [List.getElem?_append_right (by omega), ← n] at h2
    have h0 : i - as.length = 0 := by
      rcases Nat.eq_zero_or_pos (i - as.length) with z | z
      · exact z
      · rw [List.getElem?_eq_none (by simp; omega)] at h1; cases h1
    rw [h0] at h1 h2
    simp at h1 h2
    subst h1 h2
    exact up _ _ ha
theorem kind_row {k : Bool} : decide (V.str (kindS k) = V.str "row") = k := by
  cases k
  · exact decide_eq_false (fun z => absurd (V.str.inj z) (by decide +kernel))
  · exact decide_eq_true rfl
theorem kind_col {k : Bool} : decide (V.str (kindS k) = V.str "column") = !k := by
  cases k
  · exact decide_eq_true rfl
  · exact decide_eq_false (fun z => absurd (V.str.inj z) (by decide +kernel))
/-- all three -/
structure Web (H : Hp) (r c l : Addr) (q : List Nd) : Prop where
  rw : DAt H r q true
  cl : DAt H c q false
  wt : WaitAt H l q
theorem Web.to {H H' : Hp} {r c l : Addr} {q : List Nd} (h : Web H r c l q) (s : ∀ a o, H a = some o → (∀ t, o ≠ .dT t) → (∀ x y, o ≠ .frz x y) → H' a = some o) : Web H' r c l q := by
  have tp : Tp H H' := fun a xs e => s _ _ e (fun _ z => by cases z) (fun _ _ z => by cases z)
  exact ⟨h.rw.to (fun _ e => s _ _ e (fun _ z => by cases z) (fun _ _ z => by cases z)) tp, h.cl.to (fun _ e => s _ _ e (fun _ z => by cases z) (fun _ _ z => by cases z)) tp, h.wt.to (fun _ e => s _ _ e (fun _ z => by cases z) (fun _ _ z => by cases z)) tp⟩
theorem keys_kv {bx : Bxs} {i : Nat} {k : List Key} {v : V} (h : (toldKV (told bx))[i]? = some (k, v)) : ∃ b, (keys bx)[i]? = some b ∧ k = keyK b ∧ b ∈ keys bx := by
  unfold toldKV at h
  rw [List.getElem?_map, Option.map_eq_some_iff] at h
  obtain ⟨e, he, h⟩ := h
  injection h with h1 h2
  have : (keys bx)[i]? = some e.1 := by unfold keys; rw [List.getElem?_map, he]; rfl
  exact ⟨e.1, this, h1.symm, List.mem_of_getElem? this⟩
theorem keys_len (bx : Bxs) : (toldKV (told bx)).length = (keys bx).length := by simp [toldKV, keys]

theorem put_both {H : Hp} {k : Bool} {dk dn l : Addr} {q : List Nd} (h1 : DAt H dk q k) (h2 : DAt H dn q (!k)) (h3 : WaitAt H l q) (ne : dk ≠ dn) {i : Nat} {p : List Bx} {b : Bx} {a : Addr} (hn : hasN q k i = false) (ha : H a = some (tupB b)) (hq : q.length ≤ 1000) :
    ∃ kvs, H dk = some (.dK kvs) ∧ ∃ kvs', DPut H dk (.int (i : Int)) (.ref a) (upd H dk (.dK kvs')) ∧ ∀ t, (upd H dk (.dK kvs')) t = none → ∃ xs, (upd (upd H dk (.dK kvs')) t (.tup [.str (kindS k), .int (i : Int)])) l = some (.lst xs) ∧ xs.length = q.length ∧
      DAt (upd (upd (upd H dk (.dK kvs')) t (.tup [.str (kindS k), .int (i : Int)])) l (.lst (xs ++ [.ref t]))) dk (q ++ [(k, i, p ++ [b])]) k ∧
      DAt (upd (upd (upd H dk (.dK kvs')) t (.tup [.str (kindS k), .int (i : Int)])) l (.lst (xs ++ [.ref t]))) dn (q ++ [(k, i, p ++ [b])]) (!k) ∧
      WaitAt (upd (upd (upd H dk (.dK kvs')) t (.tup [.str (kindS k), .int (i : Int)])) l (.lst (xs ++ [.ref t]))) l (q ++ [(k, i, p ++ [b])]) := by
  obtain ⟨H', g, h1', o, rfl, kvs', rfl⟩ := h1.put (p := p) hn ha hq
  obtain ⟨kvs, ek, _, _⟩ := h1
  obtain ⟨xl, el, _⟩ := h3.len
  have nl : l ≠ dk := ne_of el ek (by intro z; cases z)
  refine ⟨kvs, ek, kvs', g, fun t nt => ?_⟩
  have u1 : ∀ c o, H c = some o → c ≠ dk → upd H dk (.dK kvs') c = some o := fun c o e hc => by rw [upd_ne hc]; exact e
  have u2 : ∀ c o, (upd H dk (.dK kvs')) c = some o → (upd (upd H dk (.dK kvs')) t (.tup [.str (kindS k), .int (i : Int)])) c = some o := fun c o e => same_upd nt _ _ e
  have tp1 : Tp H (upd (upd H dk (.dK kvs')) t (.tup [.str (kindS k), .int (i : Int)])) := fun c xs e => u2 _ _ (u1 _ _ e (ne_of e ek (by intro z; cases z)))
  have h3' : WaitAt (upd (upd H dk (.dK kvs')) t (.tup [.str (kindS k), .int (i : Int)])) l q := h3.to (fun xs e => u2 _ _ (u1 _ _ e nl)) tp1
  obtain ⟨xs, e1, e2, e3⟩ := h3'.put (e := (k, i, p ++ [b])) (a := t) upd_same
  have u3 : ∀ c o, (upd (upd H dk (.dK kvs')) t (.tup [.str (kindS k), .int (i : Int)])) c = some o → c ≠ l → (upd (upd (upd H dk (.dK kvs')) t (.tup [.str (kindS k), .int (i : Int)])) l (.lst (xs ++ [.ref t]))) c = some o := fun c o e hc => by rw [upd_ne hc]; exact e
  have tp3 : Tp (upd (upd H dk (.dK kvs')) t (.tup [.str (kindS k), .int (i : Int)])) (upd (upd (upd H dk (.dK kvs')) t (.tup [.str (kindS k), .int (i : Int)])) l (.lst (xs ++ [.ref t]))) := fun c ys e => u3 _ _ e (ne_of e e1 (by intro z; cases z))
  refine ⟨xs, e1, e2, ?_, ?_, e3⟩
  · refine h1'.to (fun kv e => u3 _ _ (u2 _ _ e) (Ne.symm nl)) fun c ys e => tp3 _ _ (u2 _ _ e)
  · obtain ⟨kn, en, _, _⟩ := id h2
    refine (h2.other (by cases k <;> decide) i (p ++ [b])).to (fun kv e => u3 _ _ (u2 _ _ (u1 _ _ e (Ne.symm ne))) ?_) fun c ys e => tp3 _ _ (tp1 _ _ e)
    exact ne_of en el (by intro z; cases z)
theorem fold_len (e : Nd) : ∀ (M : List Bx) (q : List Nd), (M.foldl (addN e) q).length ≤ q.length + M.length
  | [], q => Nat.le_refl _
  | b :: M, q => by
    have h1 := fold_len e M (addN e q b)
    have h2 : (addN e q b).length ≤ q.length + 1 := by
      obtain ⟨k, i, p⟩ := e
      rw [addN_eq]
      split <;> simp
    rw [List.foldl_cons, List.length_cons]
    omega
theorem keys_le {bx : Bxs} {w : Nat} (G : GoodB bx w) : (keys bx).length ≤ 144 := by
  have h1 := tabT_len G bx.length
  have h2 := G.h2
  have h3 : (keys bx).length = (tabT bx bx.length).length := by simp [keys, told]
  omega
theorem upd_no {H : Hp} {p x : Addr} {o : HO} (h : upd H p o x = none) : x ≠ p ∧ H x = none := by
  have hne : x ≠ p := fun z => by subst z; rw [upd_same] at h; cases h
  exact ⟨hne, by rw [upd_ne hne] at h; exact h⟩
def SprP (H : Hp) (bx : Bxs) (wd r : Nat) (p d1 d2 l : Addr) (n : Nat) (σ : L2.St) (H' : Hp) : Prop := ∃ (qq : List Nd) (y6 y7 y8 : Option V), n ≤ bx.length + wd ∧ σ = [some (.ref p), some (.int (r : Int)), some (.ref d1), some (.ref d2), some (.ref l), some (.int (n : Int)), y6, y7, y8] ∧
  Same H H' ∧ Web H' d1 d2 l qq ∧ InvD (keys bx) r n qq ∧ Bd bx.length wd qq ∧ sprN (keys bx) (bx.length + wd - n) qq n = spread (keys bx) (bx.length + wd) r

def sp_spread_from (C : Addr) : Sp := fun vs H Q _ => ∃ (p : Addr) (bx : Bxs) (wd r : Nat), vs = [.ref p, .int (r : Int)] ∧ TblAt C H p bx wd ∧ GoodB bx wd ∧ r < bx.length ∧
  ∀ (t d1 d2 : Addr) H', Same H H' → H' t = some (.tup [.ref d1, .ref d2]) → DAt H' d1 (spread (keys bx) (bx.length + wd) r) true → DAt H' d2 (spread (keys bx) (bx.length + wd) r) false → Q (.ref t) H'
/-- one box of the turn -/
theorem foldN_take (L : List Bx) (e : Nd) (q : List Nd) (i : Nat) (b : Bx) (h : L[i]? = some b) : (L.take (i + 1)).foldl (addN e) q = addN e ((L.take i).foldl (addN e) q) b := by
  rw [List.take_add_one, h, List.foldl_append]
  rfl
theorem cal_spread_from (T : Txt K mg C) : Cal P w K mg base 1 "spread_from" (sp_spread_from C) := by
  refine cal_of T.d_spread_from sc_spread_from (fun vs H Q E h => ?_) fun f cdv A outer s H vs Q E hr h => ?_
  · obtain ⟨p, bx, wd, r, rfl, _⟩ := h
    rfl
  · obtain ⟨p, bx, wd, r, rfl, ht, G, hrb, q⟩ := h
    have nd := sc_spread_from.nd
    have hu := hu_of hr
    obtain ⟨dx, d, fs, e1, e2, e3, e4, e5⟩ := ht.ex
    refine ⟨_, (pss_cons (ps_set (i := 2) nd rfl (Or.inl rfl) (pe_disp (pps_cons (pv 1) pe_non pps_nil) (by rfl) (by rfl) (fun z => by cases z) (by decide)))
(pss_cons (ps_set (i := 3) nd rfl (Or.inl rfl) pe_dnewK)
(pss_cons (ps_set (i := 4) nd rfl (Or.inl rfl) (pe_lst (pa_cons (pe_tup (pa_cons pe_str (pa_cons (pv 1) pa_nil))) pa_nil)))
(pss_cons (ps_set (i := 5) nd rfl (Or.inl rfl) pe_int)
(pss_cons (ps_while PassesOwn.never (pt_cmpR op_lt (pv 5) (pe_callB call_len_seq (by rfl) T.b_len PySem.boot_len (pa_cons (pv 4) pa_nil)) (nomark _))
(pss_cons (ps_asg (pe_ix ix_list (pv 4) (pv 5) (fun _ _ => rfl)) (pg_tup rfl (pgs_cons (pg_name (i := 6) nd rfl (Or.inl rfl)) (pgs_cons (pg_name (i := 7) nd rfl (Or.inl rfl)) pgs_nil))))
(pss_cons (ps_aug (i := 5) nd rfl (Or.inl rfl) pe_int ip_add)
(pss_one (ps_lock (ps_for PassesOwn.never rfl (pi_keys (pe_fld (pv 0) rfl)) (pg_name (i := 8) nd rfl (Or.inl rfl))
(pss_cons (ps_if (PW.pt (pw_and (pt_cmpR op_eq (pv 6) pe_str (nomark _)) (pw_and (pt_cmpR op_eq (pe_ix ix_tup (pv 8) pe_int (fun _ _ => rfl)) (pv 7) (nomark _)) (pw_and1 (pt_cmp (pc_dnotin hu (pe_ix ix_tup (pv 8) pe_int (fun _ _ => rfl)) (pv 3)))))))
(pss_cons (ps_dput hu (pv 3) (pe_ix ix_tup (pv 8) pe_int (fun _ _ => rfl)) (pv 8) rfl)
(pss_one (ps_expr (pe_bm PySem.F.plainAttrs_list PySem.F.slot_list_append PySem.F.type_list_append mt_append (pv 4) (pa_cons (pe_tup (pa_cons pe_str (pa_cons (pe_ix ix_tup (pv 8) pe_int (fun _ _ => rfl)) pa_nil))) pa_nil)))))
pss_nil)
(pss_one (ps_if (PW.pt (pw_and (pt_cmpR op_eq (pv 6) pe_str (nomark _)) (pw_and (pt_cmpR op_eq (pe_ix ix_tup (pv 8) pe_int (fun _ _ => rfl)) (pv 7) (nomark _)) (pw_and1 (pt_cmp (pc_dnotin hu (pe_ix ix_tup (pv 8) pe_int (fun _ _ => rfl)) (pv 2)))))))
(pss_cons (ps_dput hu (pv 2) (pe_ix ix_tup (pv 8) pe_int (fun _ _ => rfl)) (pv 8) rfl)
(pss_one (ps_expr (pe_bm PySem.F.plainAttrs_list PySem.F.slot_list_append PySem.F.type_list_append mt_append (pv 4) (pa_cons (pe_tup (pa_cons pe_str (pa_cons (pe_ix ix_tup (pv 8) pe_int (fun _ _ => rfl)) pa_nil))) pa_nil)))))
pss_nil)))))))))
(pss_one (ps_ret (pe_tup (pa_cons (pv 2) (pa_cons (pv 3) pa_nil)))))))))), ?_⟩
    have hL : ∀ b ∈ keys bx, b.1 < bx.length ∧ b.2 < wd := keys_lt G
    -- rows
    refine fun d1 n1 => ⟨_, rfl, upd_same, [(Sum.inl (r : Int), .non)], rfl, (by show 1 ≤ 15; decide), ?_⟩
    refine fun d2 n2 => ?_
    refine ⟨_, rfl, small (by show 2 ≤ 100000; decide), fun a0 n0 => ⟨small (by show 1 ≤ 100000; decide), fun l nl => ?_⟩⟩
    generalize hH1 : upd (upd (upd (upd (upd H d1 (HO.dK [])) d1 (HO.dK (mergeK [] [(Sum.inl (r : Int), V.non)]))) d2 (HO.dK [])) a0 (HO.tup [V.str "row", V.int (r : Int)])) l (HO.lst [V.ref a0]) = H1
    obtain ⟨nl0, nl1⟩ := upd_no nl
    obtain ⟨nl2, nl3⟩ := upd_no nl1
    obtain ⟨nl4, nl5⟩ := upd_no nl3
    obtain ⟨nl6, nl7⟩ := upd_no nl5
    obtain ⟨na1, na2⟩ := upd_no n0
    obtain ⟨na3, na4⟩ := upd_no na2
    obtain ⟨na5, na6⟩ := upd_no na4
    obtain ⟨nd1, nd2⟩ := upd_no n2
    obtain ⟨nd3, nd4⟩ := upd_no nd2
    have k1 : Same H H1 := by
      rw [← hH1]
      exact same_mut (same_mut (same_mut (same_mut (same_upd n1) n1) nd4) na6) nl7
    have w1 : Web H1 d1 d2 l [(true, r, [])] := by
      rw [← hH1]
      refine ⟨⟨[(Sum.inl (r : Int), V.non)], ?_, Nat.le_refl _, fun i => ?_⟩, ⟨[], ?_, Nat.zero_le _, fun i => ?_⟩, ⟨[a0], upd_same, rfl, fun i a e h1 h2 => ?_⟩⟩
      · rw [upd_ne (Ne.symm nl4), upd_ne (Ne.symm na3), upd_ne (Ne.symm nd1), upd_same]
        rfl
      · by_cases hi : i = r
        · subst hi
          rw [valV_pos rfl]
          simp [ndAt]
          exact ⟨_, rfl, .inl ⟨rfl, rfl⟩⟩
        · rw [valV_neg (fun z => hi (by have := Sum.inl.inj z; omega)), valV_nil]
          have : (r == i) = false := beq_eq_false_iff_ne.mpr (Ne.symm hi)
          simp [ndAt, List.find?_cons, this]
          rfl
      · rw [upd_ne (Ne.symm nl2), upd_ne (Ne.symm na1), upd_same]
      · simp [ndAt, List.find?_cons, valV_nil]
        rfl
      · cases i with
        | zero =>
          simp at h1 h2
          subst h1 h2
          rw [upd_ne (Ne.symm nl0), upd_same]
          rfl
        | succ i => simp at h1
    refine ⟨fun m σ H' => ∃ n, m = bx.length + wd - n ∧ SprP H bx wd r p d1 d2 l n σ H', ⟨_, 0, rfl, _, none, none, none, Nat.zero_le _, rfl, k1, w1, invD_start _ _, fun e he => by rw [List.mem_singleton] at he; subst he; simpa using hrb, rfl⟩, ?_⟩
    rintro m σ H2 ⟨n, rfl, qq, y6, y7, y8, hn, rfl, k2, W2, I2, B2, hs⟩
    obtain ⟨xl, hl, hxl⟩ := W2.wt.len
    have hqn := bd_len I2.i0 B2
    refine ⟨_, rfl, _, rfl, l, xl, rfl, .inl (SqL.of hl), _, _, rfl, rfl, _, rfl, ite2 (fun e => ?_) fun e => ?_⟩
    · have hlt : n < qq.length := by have := of_decide_eq_true e; omega
      obtain ⟨e, he⟩ : ∃ e, qq[n]? = some e := ⟨_, List.getElem?_eq_getElem hlt⟩
      have hsn : sprN (keys bx) (bx.length + wd - (n + 1)) (turnN (keys bx) e qq) (n + 1) = spread (keys bx) (bx.length + wd) r := by
        rw [← hs, show bx.length + wd - n = (bx.length + wd - (n + 1)) + 1 by omega]
        conv => rhs; unfold sprN
        rw [he]
      refine ⟨SprP H bx wd r p d1 d2 l (n + 1), fun σ' H' h => ⟨_, by omega, _, rfl, h⟩, ?_⟩
      obtain ⟨xs, ea, hl2, _, hxa, hea⟩ := W2.wt.get he
      refine ⟨_, rfl, _, rfl, l, xs, n, _, rfl, rfl, SqL.of hl2, atI_nat hxa, ea, _, rfl, SqT.of hea, rfl, _, _, rfl, _, _, rfl, rfl, ?_⟩
      refine ⟨_, rfl, n, 1, rfl, rfl, ?_⟩
      have hd2 : H2 d = some (.dT (toldKV (told bx))) := k2 _ _ e5
      refine ⟨d, _, hd2, trivial, fun od => ?_⟩
      have wl : Web (upd H2 d (.frz od (.dT (toldKV (told bx))))) d1 d2 l qq := W2.to fun a o ho h1 _ => by rw [upd_ne (fun z => by subst z; rw [hd2] at ho; cases ho; exact h1 _ rfl)]; exact ho
      have kl : ∀ b o, H b = some o → b ≠ d → (upd H2 d (.frz od (.dT (toldKV (told bx))))) b = some o := fun b o ho hb => by rw [upd_ne hb]; exact k2 _ _ ho
      have npd : p ≠ d := ne_of e1 e5 (by intro z; cases z)
      refine ⟨_, rfl, p, C, dx, fs, _, rfl, kl _ _ e1 npd, T.cl, T.nT, e4, d, od, rfl, .inr ⟨_, upd_same, ?_⟩⟩
      refine for_it walk_keysT (fun i σ H' => ∃ y8, σ = [some (.ref p), some (.int (r : Int)), some (.ref d1), some (.ref d2), some (.ref l), some (.int ((n : Int) + 1)), some (.str (kindS e.1)), some (.int (e.2.1 : Int)), y8] ∧ H' d = some (.frz od (.dT (toldKV (told bx)))) ∧
        (∀ b o, H b = some o → b ≠ d → H' b = some o) ∧ Web H' d1 d2 l (((keys bx).take i).foldl (addN e) qq)) ⟨_, rfl, upd_same, kl, wl⟩ (fun i σ H' _ ⟨_, _, h, _⟩ => h) ?_ ?_
      · rintro i x σ H4 H3 hi ⟨y8, rfl, hz, k3, W3⟩ ⟨rfl, kk, v, qa, hkv, rfl, hqa⟩
        obtain ⟨b, hb, rfl, hbm⟩ := keys_kv hkv
        have hqa' : H3 qa = some (tupB b) := hqa
        have hnx := foldN_take (keys bx) e qq i b hb
        have hQ : (((keys bx).take i).foldl (addN e) qq).length ≤ 1000 := by
          have h1 := fold_len e ((keys bx).take i) qq
          have h2 := keys_le G
          have h3 := G.h2
          have h4 := G.w2
          have h5 : ((keys bx).take i).length ≤ (keys bx).length := by rw [List.length_take]; omega
          omega
        generalize hqi : ((keys bx).take i).foldl (addN e) qq = qi at W3 hnx hQ
        rw [hnx]
        obtain ⟨ke, ie, pe⟩ := e
        rw [addN_eq]
        -- nothing is added
        have keepQ : ∀ (hno : ¬ (thisEnd ke b = ie ∧ hasN qi (!ke) (otherEnd ke b) = false)), Web H3 d1 d2 l (if thisEnd ke b = ie ∧ hasN qi (!ke) (otherEnd ke b) = false then qi ++ [(!ke, otherEnd ke b, pe ++ [b])] else qi) := fun hno => by rw [if_neg hno]; exact W3
        cases ke with
        | true =>
          refine ⟨_, rfl, rfl, _, rfl, ?_⟩
          rw [kind_row]
          refine iteT ?_
          refine ⟨_, rfl, qa, _, 0, _, rfl, rfl, SqT.of hqa', atI_nat (j := 0) rfl, _, rfl, rfl, _, rfl, ?_⟩
          by_cases hb1 : b.1 = ie
          · refine iteD (by rw [hb1]) ?_
            obtain ⟨o, g, ho⟩ := W3.cl.has b.2
            refine ⟨_, rfl, qa, _, 1, _, rfl, rfl, SqT.of hqa', atI_nat (j := 1) rfl, _, rfl, d2, o, rfl, g, _, rfl, ?_⟩
            rw [ho]
            cases hh : hasN qi false b.2 with
            | true =>
              refine iteF ?_
              refine ⟨_, rfl, rfl, _, rfl, ?_⟩
              rw [kind_col]
              refine iteF (iteF ⟨_, rfl, hz, k3, keepQ fun z => ?_⟩)
              have z2 := z.2
              rw [show hasN qi (!true) (otherEnd true b) = hasN qi false b.2 from rfl, hh] at z2
              cases z2
            | false =>
              refine iteT ?_
              obtain ⟨kvs, ek, kvs', gp, hafter⟩ := put_both (p := pe) W3.cl W3.rw W3.wt nd1 hh hqa' hQ
              refine ⟨_, rfl, _, rfl, _, rfl, qa, _, 1, _, rfl, rfl, SqT.of hqa', atI_nat (j := 1) rfl, d2, _, rfl, gp, ?_⟩
              obtain ⟨xl3, hl3, _⟩ := W3.wt.len
              have hl5 : (upd H3 d2 (.dK kvs')) l = some (.lst xl3) := by rw [upd_ne (ne_of hl3 ek (by intro z; cases z))]; exact hl3
              have hqa5 : (upd H3 d2 (.dK kvs')) qa = some (tupB b) := by rw [upd_ne (ne_of hqa' ek (by intro z; cases z))]; exact hqa'
              refine ⟨_, rfl, .inl ⟨rfl, _, .inl (.inl hl5)⟩, _, rfl, qa, _, 1, _, rfl, rfl, SqT.of hqa5, atI_nat (j := 1) rfl, small (by show 2 ≤ 100000; decide), fun t nt => ?_⟩
              obtain ⟨xs2, g1, g2, g3, g4, g5⟩ := hafter t nt
              refine ⟨l, xs2, _, rfl, rfl, g1, smallL (by omega), ?_⟩
              have nz1 : d ≠ d2 := ne_of hz ek (by intro z; cases z)
              have nz2 : d ≠ l := ne_of hz hl3 (by intro z; cases z)
              have nz3 : d ≠ t := ne_of_none (by rw [upd_ne nz1]; exact hz) nt
              have hz6 : (upd (upd (upd H3 d2 (.dK kvs')) t (.tup [.str (kindS false), .int (b.2 : Int)])) l (.lst (xs2 ++ [.ref t]))) d = some (.frz od (.dT (toldKV (told bx)))) := by rw [upd_ne nz2, upd_ne nz3, upd_ne nz1]; exact hz
              have k6 : ∀ c o, H c = some o → c ≠ d → (upd (upd (upd H3 d2 (.dK kvs')) t (.tup [.str (kindS false), .int (b.2 : Int)])) l (.lst (xs2 ++ [.ref t]))) c = some o := fun c o ho hc => by
                have c1 : c ≠ d2 := ne_of_none ho nd4
                have c2 : c ≠ l := ne_of_none ho nl7
                have c3 : c ≠ t := ne_of_none (by rw [upd_ne c1]; exact k3 _ _ ho hc) nt
                rw [upd_ne c2, upd_ne c3, upd_ne c1]
                exact k3 _ _ ho hc
              refine ⟨_, rfl, rfl, _, rfl, ?_⟩
              rw [kind_col]
              refine iteF (iteF ⟨_, rfl, hz6, k6, ?_⟩)
              rw [if_pos ⟨hb1, hh⟩]
              exact ⟨g4, g3, g5⟩
          · refine iteND (fun z => hb1 (Int.ofNat.inj (V.int.inj z))) (iteF ?_)
            refine ⟨_, rfl, rfl, _, rfl, ?_⟩
            rw [kind_col]
            exact iteF (iteF ⟨_, rfl, hz, k3, keepQ fun z => hb1 z.1⟩)
        | false =>
          refine ⟨_, rfl, rfl, _, rfl, ?_⟩
          rw [kind_row]
          refine iteF (iteF ?_)
          refine ⟨_, rfl, rfl, _, rfl, ?_⟩
          rw [kind_col]
          refine iteT ?_
          refine ⟨_, rfl, qa, _, 1, _, rfl, rfl, SqT.of hqa', atI_nat (j := 1) rfl, _, rfl, rfl, _, rfl, ?_⟩
          by_cases hb1 : b.2 = ie
          · refine iteD (by rw [hb1]) ?_
            obtain ⟨o, g, ho⟩ := W3.rw.has b.1
            refine ⟨_, rfl, qa, _, 0, _, rfl, rfl, SqT.of hqa', atI_nat (j := 0) rfl, _, rfl, d1, o, rfl, g, _, rfl, ?_⟩
            rw [ho]
            cases hh : hasN qi true b.1 with
            | true =>
              refine iteF ⟨_, rfl, hz, k3, keepQ fun z => ?_⟩
              have z2 := z.2
              rw [show hasN qi (!false) (otherEnd false b) = hasN qi true b.1 from rfl, hh] at z2
              cases z2
            | false =>
              refine iteT ?_
              obtain ⟨kvs, ek, kvs', gp, hafter⟩ := put_both (p := pe) W3.rw W3.cl W3.wt (Ne.symm nd1) hh hqa' hQ
              refine ⟨_, rfl, _, rfl, _, rfl, qa, _, 0, _, rfl, rfl, SqT.of hqa', atI_nat (j := 0) rfl, d1, _, rfl, gp, ?_⟩
              obtain ⟨xl3, hl3, _⟩ := W3.wt.len
              have hl5 : (upd H3 d1 (.dK kvs')) l = some (.lst xl3) := by rw [upd_ne (ne_of hl3 ek (by intro z; cases z))]; exact hl3
              have hqa5 : (upd H3 d1 (.dK kvs')) qa = some (tupB b) := by rw [upd_ne (ne_of hqa' ek (by intro z; cases z))]; exact hqa'
              refine ⟨_, rfl, .inl ⟨rfl, _, .inl (.inl hl5)⟩, _, rfl, qa, _, 0, _, rfl, rfl, SqT.of hqa5, atI_nat (j := 0) rfl, small (by show 2 ≤ 100000; decide), fun t nt => ?_⟩
              obtain ⟨xs2, g1, g2, g3, g4, g5⟩ := hafter t nt
              refine ⟨l, xs2, _, rfl, rfl, g1, smallL (by omega), ?_⟩
              have nz1 : d ≠ d1 := ne_of hz ek (by intro z; cases z)
              have nz2 : d ≠ l := ne_of hz hl3 (by intro z; cases z)
              have nz3 : d ≠ t := ne_of_none (by rw [upd_ne nz1]; exact hz) nt
              have hz6 : (upd (upd (upd H3 d1 (.dK kvs')) t (.tup [.str (kindS true), .int (b.1 : Int)])) l (.lst (xs2 ++ [.ref t]))) d = some (.frz od (.dT (toldKV (told bx)))) := by rw [upd_ne nz2, upd_ne nz3, upd_ne nz1]; exact hz
              have k6 : ∀ c o, H c = some o → c ≠ d → (upd (upd (upd H3 d1 (.dK kvs')) t (.tup [.str (kindS true), .int (b.1 : Int)])) l (.lst (xs2 ++ [.ref t]))) c = some o := fun c o ho hc => by
                have c1 : c ≠ d1 := ne_of_none ho n1
                have c2 : c ≠ l := ne_of_none ho nl7
                have c3 : c ≠ t := ne_of_none (by rw [upd_ne c1]; exact k3 _ _ ho hc) nt
                rw [upd_ne c2, upd_ne c3, upd_ne c1]
                exact k3 _ _ ho hc
              refine ⟨_, rfl, hz6, k6, ?_⟩
              rw [if_pos ⟨hb1, hh⟩]
              exact ⟨g3, g4, g5⟩
          · exact iteND (fun z => hb1 (Int.ofNat.inj (V.int.inj z))) (iteF ⟨_, rfl, hz, k3, keepQ fun z => hb1 z.1⟩)
      · rintro σ H3 ⟨y8, rfl, hz, k3, W3⟩
        refine ⟨hz, _, _, _, _, by omega, rfl, ?_, W3.to ?_, ?_, ?_, ?_⟩
        · intro b o ho
          by_cases hb : b = d
          · subst hb
            rw [upd_same, ← ho, e5]
          · rw [upd_ne hb]
            exact k3 _ _ ho hb
        · intro a o ho _ h2
          rw [upd_ne (fun z => by subst z; rw [hz] at ho; cases ho; exact h2 _ _ rfl)]
          exact ho
        · rw [keys_len, List.take_of_length_le (Nat.le_refl _)]
          exact invD_turn I2 he
        · rw [keys_len, List.take_of_length_le (Nat.le_refl _)]
          exact bd_fold _ hL B2
        · rw [keys_len, List.take_of_length_le (Nat.le_refl _)]
          exact hsn
    · have hge : qq.length ≤ n := by
        have h0 : ¬ (n : Int) < (xl.length : Int) := fun z => e (decide_eq_true z)
        omega
      have hfin : sprN (keys bx) (bx.length + wd - n) qq n = qq := by
        cases bx.length + wd - n with
        | zero => rfl
        | succ m =>
          unfold sprN
          rw [List.getElem?_eq_none hge]
      rw [hfin] at hs
      rw [hs] at W2
      refine ⟨_, rfl, _, rfl, small (by show 2 ≤ 100000; decide), fun t nt => ?_⟩
      have tp : Tp H2 (upd H2 t (.tup [.ref d1, .ref d2])) := fun c xs hc => same_upd nt _ _ hc
      exact q t d1 d2 _ (same_new k2 nt) upd_same (W2.rw.to (fun kv hk => same_upd nt _ _ hk) tp) (W2.cl.to (fun kv hk => same_upd nt _ _ hk) tp)
end K15
end
section
set_option maxRecDepth 100000
set_option maxHeartbeats 4000000
namespace K15
open PySem PySem.Spec PyProof.Rows L2
variable {P : Program} {w : World} {K : PySem.W.Frag} {mg : Str → Option Value} {base : Heap} {C : Addr}
def sp_boxes_back : Sp := fun vs H Q _ => ∃ (d1 d2 : Addr) (L : List Bx) (root c : Nat) (q : List Nd) (p : List Bx), vs = [.ref d1, .ref d2, .str "column", .int (c : Int)] ∧ DAt H d1 q true ∧ DAt H d2 q false ∧ Inv0 L root q ∧ (false, c, p) ∈ q ∧ p.length ≤ 1000 ∧
  ∀ (l : Addr) (as : List Addr) H', Same H H' → H' l = some (.lst (as.map V.ref)) → WayAt H' as p.reverse → Q (.ref l) H'
/-- what the dict of the kind says -/
theorem DAt.said {H : Hp} {d : Addr} {q : List Nd} {k : Bool} {L : List Bx} {root i : Nat} {p : List Bx} (h : DAt H d q k) (I : Inv0 L root q) (hm : (k, i, p) ∈ q) :
    ∃ x, DGet H d (.int (i : Int)) (some x) ∧ ((p = [] ∧ x = .non) ∨ ∃ (a : Addr) (p' : List Bx) (b : Bx), p = p' ++ [b] ∧ x = .ref a ∧ H a = some (tupB b)) := by
  obtain ⟨o, g, hv⟩ := h.get i
  rw [ndAt_of I hm] at hv
  obtain ⟨x, rfl, hv⟩ := hv
  exact ⟨x, g, hv⟩
theorem cal_boxes_back (T : Txt K mg C) : Cal P w K mg base 1 "boxes_back" sp_boxes_back := by
  refine cal_of T.d_boxes_back sc_boxes_back (fun vs H Q E h => ?_) fun f cdv A outer s H vs Q E hr h => ?_
  · obtain ⟨d1, d2, L, root, c, q, p, rfl, _⟩ := h
    rfl
  · obtain ⟨d1, d2, L, root, c, q, p, rfl, h1, h2, I, hm, hlen, hq⟩ := h
    have nd := sc_boxes_back.nd
    have hu := hu_of hr
    refine ⟨_, (pss_cons (ps_set (i := 4) nd rfl (Or.inl rfl) (pe_lst pa_nil))
(pss_cons (ps_set (i := 5) nd rfl (Or.inl rfl) (pe_ifExp (pt_cmpR op_eq (pv 2) pe_str (nomark _)) (pe_dget hu (pv 0) (pv 3) (fun _ _ => rfl)) (pe_dget hu (pv 1) (pv 3) (fun _ _ => rfl))))
(pss_cons (ps_while PassesOwn.never (pt_cmp (pc_notN (pv 5)))
(pss_cons (ps_expr (pe_bm PySem.F.plainAttrs_list PySem.F.slot_list_append PySem.F.type_list_append mt_append (pv 4) (pa_cons (pv 5) pa_nil)))
(pss_cons (ps_set (i := 2) nd rfl (Or.inl rfl) (pe_ifExp (pt_cmpR op_eq (pv 2) pe_str (nomark _)) pe_str pe_str))
(pss_one (ps_set (i := 5) nd rfl (Or.inl rfl) (pe_ifExp (pt_cmpR op_eq (pv 2) pe_str (nomark _)) (pe_dget hu (pv 0) (pe_ix ix_tup (pv 5) pe_int (fun _ _ => rfl)) (fun _ _ => rfl)) (pe_dget hu (pv 1) (pe_ix ix_tup (pv 5) pe_int (fun _ _ => rfl)) (fun _ _ => rfl))))))))
(pss_one (ps_ret (pv 4)))))), ?_⟩
    refine ⟨Nat.zero_le _, fun l nl => ?_⟩
    have s0 : Same H (upd H l (.lst [])) := same_upd nl
    refine ⟨_, rfl, rfl, _, rfl, iteF ?_⟩
    have tpS : ∀ {H' : Hp}, Same H H' → DAt H' d1 q true ∧ DAt H' d2 q false := fun {H'} sm => ⟨h1.to (fun _ e => sm _ _ e) (fun _ _ e => sm _ _ e), h2.to (fun _ e => sm _ _ e) (fun _ _ e => sm _ _ e)⟩
    obtain ⟨x, g, hx⟩ := (tpS s0).2.said I hm
    refine ⟨_, rfl, _, rfl, d2, x, rfl, g, ?_⟩
    refine ⟨fun m σ H' => ∃ (k : Bool) (i : Nat) (pc rest : List Bx) (as : List Addr) (x : V), m = pc.length ∧ σ = [some (.ref d1), some (.ref d2), some (.str (kindS k)), some (.int (c : Int)), some (.ref l), some x] ∧ Same H H' ∧ (k, i, pc) ∈ q ∧ p = pc ++ rest ∧
      ((pc = [] ∧ x = .non) ∨ ∃ (a : Addr) (p' : List Bx) (b : Bx), pc = p' ++ [b] ∧ x = .ref a ∧ H' a = some (tupB b)) ∧ H' l = some (.lst (as.map V.ref)) ∧ WayAt H' as rest.reverse,
      ⟨_, false, c, p, [], [], x, rfl, rfl, s0, hm, (List.append_nil _).symm, hx, upd_same, WayAt.nil _⟩, ?_⟩
    rintro m σ H2 ⟨k, i, pc, rest, as, x, rfl, rfl, k2, hmc, hp, hx, hl, hw⟩
    rcases hx with ⟨rfl, rfl⟩ | ⟨a, p', b, rfl, rfl, ha⟩
    · refine ⟨_, rfl, _, rfl, iteF ?_⟩
      refine ⟨_, rfl, ?_⟩
      rw [List.nil_append] at hp
      subst hp
      exact hq l as _ k2 hl hw
    · refine ⟨_, rfl, _, rfl, iteT ?_⟩
      refine ⟨fun σ' H' => ∃ (k : Bool) (i : Nat) (pc rest : List Bx) (as : List Addr) (x : V), pc.length = p'.length ∧ σ' = [some (.ref d1), some (.ref d2), some (.str (kindS k)), some (.int (c : Int)), some (.ref l), some x] ∧ Same H H' ∧ (k, i, pc) ∈ q ∧ p = pc ++ rest ∧
        ((pc = [] ∧ x = .non) ∨ ∃ (a : Addr) (p' : List Bx) (b : Bx), pc = p' ++ [b] ∧ x = .ref a ∧ H' a = some (tupB b)) ∧ H' l = some (.lst (as.map V.ref)) ∧ WayAt H' as rest.reverse,
        fun σ' H' ⟨k', i', pc', r', as', x', hle, hh⟩ => ⟨pc'.length, by simp [hle], k', i', pc', r', as', x', rfl, hh⟩, ?_⟩
      have hlr : rest.length ≤ 1000 := by rw [hp] at hlen; simp at hlen; omega
      have hal : (as.map V.ref).length < sizeLine := by
        rw [List.length_map, hw.1, List.length_reverse]
        exact smallL (by omega)
      refine ⟨_, rfl, .inl ⟨rfl, _, .inl (.inl hl)⟩, _, rfl, l, _, _, rfl, rfl, hl, hal, ?_⟩
      have k3 : Same H (upd H2 l (.lst (as.map V.ref ++ [.ref a]))) := same_mut k2 nl
      have nal : a ≠ l := ne_of ha hl (by intro z; cases z)
      have ha3 : (upd H2 l (.lst (as.map V.ref ++ [.ref a]))) a = some (tupB b) := by rw [upd_ne nal]; exact ha
      have hl3 : (upd H2 l (.lst (as.map V.ref ++ [.ref a]))) l = some (.lst ((as ++ [a]).map V.ref)) := by rw [upd_same, List.map_append]; rfl
      have hw3 : WayAt (upd H2 l (.lst (as.map V.ref ++ [.ref a]))) (as ++ [a]) (b :: rest).reverse := by
        rw [List.reverse_cons]
        refine WayAt.snoc ⟨hw.1, fun j a' b' e1 e2 => ?_⟩ ha3
        have := hw.2 j a' b' e1 e2
        rw [upd_ne (ne_of this hl (by intro z; cases z))]
        exact this
      obtain ⟨hpre, _⟩ := I.pre k i p' b hmc
      have hp3 : p = p' ++ (b :: rest) := by rw [hp]; simp
      cases k with
      | false =>
        obtain ⟨x3, g3, hx3⟩ := (tpS k3).1.said I hpre
        refine ⟨_, rfl, rfl, _, rfl, iteF ?_⟩
        refine ⟨_, rfl, rfl, _, rfl, iteT ?_⟩
        refine ⟨_, rfl, _, rfl, a, _, 0, _, rfl, rfl, SqT.of ha3, atI_nat (j := 0) rfl, d1, x3, rfl, g3, ?_⟩
        exact ⟨true, _, p', _, _, x3, rfl, rfl, k3, hpre, hp3, hx3, hl3, hw3⟩
      | true =>
        obtain ⟨x3, g3, hx3⟩ := (tpS k3).2.said I hpre
        refine ⟨_, rfl, rfl, _, rfl, iteT ?_⟩
        refine ⟨_, rfl, rfl, _, rfl, iteF ?_⟩
        refine ⟨_, rfl, _, rfl, a, _, 1, _, rfl, rfl, SqT.of ha3, atI_nat (j := 1) rfl, d2, x3, rfl, g3, ?_⟩
        exact ⟨false, _, p', _, _, x3, rfl, rfl, k3, hpre, hp3, hx3, hl3, hw3⟩
/-- what way_between gives -/
def WayV (H : Hp) (o : Option (List Bx)) (v : V) : Prop := match o with
  | none => v = .non
  | some p => ∃ t, v = .ref t ∧ WayT H t p
def sp_way_in (C : Addr) : Sp := fun vs H Q _ => ∃ (p : Addr) (bx : Bxs) (wd r c : Nat), vs = [.ref p, .int (r : Int), .int (c : Int)] ∧ TblAt C H p bx wd ∧ GoodB bx wd ∧ r < bx.length ∧ c < wd ∧
  ∀ v H', Same H H' → WayV H' (wayN (keys bx) (bx.length + wd) r c) v → Q v H'
theorem cal_way_in (T : Txt K mg C) : Cal P w K mg base 2 "way_in" (sp_way_in C) := by
  have c_spread_from := cal_spread_from (P := P) (w := w) (base := base) T
  have c_boxes_back := cal_boxes_back (P := P) (w := w) (base := base) T
  refine cal_of T.d_way_in sc_way_in (fun vs H Q E h => ?_) fun f cdv A outer s H vs Q E hr h => ?_
  · obtain ⟨p, bx, wd, r, c, rfl, _⟩ := h
    rfl
  · obtain ⟨p, bx, wd, r, c, rfl, ht, G, h1, h2, q⟩ := h
    have nd := sc_way_in.nd
    have hu := hu_of hr
    refine ⟨_, (pss_cons (ps_asg (pe_c c_spread_from hr (by decide) (by rfl) (pa_cons (pv 0) (pa_cons (pv 1) pa_nil))) (pg_tup rfl (pgs_cons (pg_name (i := 3) nd rfl (Or.inl rfl)) (pgs_cons (pg_name (i := 4) nd rfl (Or.inl rfl)) pgs_nil))))
(pss_cons (ps_if (pt_cmp (pc_dnotin hu (pv 2) (pv 4)))
(pss_one (ps_ret pe_non))
pss_nil)
(pss_one (ps_ret (pe_callTy call_tuple_of (by rfl) T.b_tuple (by decide +kernel) (pa_cons (pe_revL (pe_c c_boxes_back hr (by decide) (by rfl) (pa_cons (pv 3) (pa_cons (pv 4) (pa_cons pe_str (pa_cons (pv 2) pa_nil)))))) pa_nil)))))), ?_⟩
    refine ⟨_, rfl, _, rfl, p, bx, wd, r, rfl, ht, G, h1, fun t d1 d2 H1 s1 e1 w1 w2 => ?_⟩
    refine ⟨t, _, rfl, SqT.of e1, rfl, _, _, rfl, _, _, rfl, rfl, ?_⟩
    obtain ⟨o, g, hv⟩ := w2.get c
    refine ⟨_, rfl, _, rfl, d2, o, rfl, g, _, rfl, ?_⟩
    cases hn : wayN (keys bx) (bx.length + wd) r c with
    | none =>
      rw [show ndAt (spread (keys bx) (bx.length + wd) r) false c = wayN (keys bx) (bx.length + wd) r c from rfl, hn] at hv
      obtain rfl : o = none := hv
      rw [hn] at q
      exact iteT (q _ _ s1 rfl)
    | some pth =>
      obtain ⟨_, _, hle, hm⟩ := way_some (keys_lt G) h1 hn
      rw [show ndAt (spread (keys bx) (bx.length + wd) r) false c = wayN (keys bx) (bx.length + wd) r c from rfl, hn] at hv
      obtain ⟨x, rfl, _⟩ := hv
      rw [hn] at q
      have i0 := (spread_fin (keys_lt G) h1).1.i0
      have g2 := G.h2
      have g4 := G.w2
      refine iteF ?_
      refine ⟨_, rfl, _, rfl, _, rfl, d1, d2, _, r, c, _, pth, rfl, w1, w2, i0, hm, by omega, fun l as H2 s2 hl hw => ?_⟩
      refine ⟨l, _, rfl, SqL.of hl, fun l2 n2 => ?_⟩
      refine ⟨l2, _, rfl, .inl ⟨SqL.of upd_same, fun t2 nt2 => ?_⟩⟩
      refine q _ _ (same_new (same_new (s1.trans s2) n2) nt2) ⟨t2, rfl, as.reverse, by rw [upd_same, List.map_reverse], ?_⟩
      have hw' := hw.rev
      rw [List.reverse_reverse] at hw'
      exact hw'.same (same_new (same_upd n2) nt2)
def sp_way_between (C : Addr) : Sp := sp_way_in C
theorem cal_way_between (T : Txt K mg C) : Cal P w K mg base 4 "way_between" (sp_way_between C) := by
  have c_way_in := cal_way_in (P := P) (w := w) (base := base) T
  have c_check_place := cal_check_place (P := P) (w := w) (base := base) T
  refine cal_of T.d_way_between sc_way_between (fun vs H Q E h => ?_) fun f cdv A outer s H vs Q E hr h => ?_
  · obtain ⟨p, bx, wd, r, c, rfl, _⟩ := h
    rfl
  · obtain ⟨p, bx, wd, r, c, rfl, ht, G, h1, h2, q⟩ := h
    have nd := sc_way_between.nd
    refine ⟨_, (pss_cons (ps_expr (pe_c c_check_place hr (by decide) (by rfl) (pa_cons (pv 0) (pa_cons (pv 1) (pa_cons (pv 2) pa_nil)))))
(pss_one (ps_ret (pe_c c_way_in hr (by decide) (by rfl) (pa_cons (pv 0) (pa_cons (pv 1) (pa_cons (pv 2) pa_nil))))))), ?_⟩
    refine ⟨_, rfl, _, rfl, _, rfl, p, bx, wd, r, c, rfl, ht, h1, h2, ?_⟩
    exact ⟨_, rfl, _, rfl, _, rfl, p, bx, wd, r, c, rfl, ht, G, h1, h2, q⟩
end K15
end
section
set_option maxRecDepth 100000
set_option maxHeartbeats 4000000
namespace K15
open PySem PySem.Spec PyProof.Rows L2
/-! ### boxes and ways compared -/
def bxD (b : Bx) : PyData := .tuple [.int (b.1 : Int), .int (b.2 : Int)]
def pthD (p : List Bx) : PyData := .tuple (p.map bxD)
theorem dp_bx {K : PySem.W.Frag} {H : Hp} {a : Addr} {b : Bx} (h : H a = some (tupB b)) : Dp K H (.ref a) (bxD b) := .tup (SqT.of h) (.cons (.int _) (.cons (.int _) .nil))
theorem dp_all {K : PySem.W.Frag} {H : Hp} : ∀ {as : List Addr} {p : List Bx}, WayAt H as p → DpAll K H (as.map V.ref) (p.map bxD)
  | [], [], _ => .nil
  | [], _ :: _, h => by have := h.1; simp at this
  | _ :: _, [], h => by have := h.1; simp at this
  | a :: as, b :: p, h => .cons (dp_bx (h.2 0 a b rfl rfl)) (dp_all ⟨by have := h.1; simpa using this, fun i a' b' e1 e2 => h.2 (i + 1) a' b' e1 e2⟩)
theorem dp_way {K : PySem.W.Frag} {H : Hp} {t : Addr} {p : List Bx} (h : WayT H t p) : Dp K H (.ref t) (pthD p) := by
  obtain ⟨as, e, h⟩ := h
  exact .tup (SqT.of e) (dp_all h)
theorem eqv_bx (b b' : Bx) : PyData.eqv (bxD b) (bxD b') = decide (b = b') := by
  obtain ⟨x, y⟩ := b
  obtain ⟨x', y'⟩ := b'
  simp only [bxD, PyData.eqv, PyData.eqvAll]
  rw [Bool.eq_iff_iff]
  simp [Prod.ext_iff]
  omega
theorem eqv_refl_all : ∀ p : List Bx, PyData.eqvAll (p.map bxD) (p.map bxD) = true
  | [] => by simp [PyData.eqvAll]
  | b :: p => by
    rw [List.map_cons, PyData.eqvAll, eqv_bx, eqv_refl_all p]
    simp
theorem eqv_way (p : List Bx) : PyData.eqv (pthD p) (pthD p) = true := by
  unfold pthD
  rw [PyData.eqv]
  exact eqv_refl_all p
theorem shaped_bx (b : Bx) : SeqAt.shaped (bxD b) = true := by
  simp [bxD, SeqAt.shaped, PyData.canLay0, PyData.canLayAll0, PyData.depth, PyData.depthAll]
theorem shaped_way (p : List Bx) : SeqAt.shaped (pthD p) = true := by
  have h : ∀ p : List Bx, PyData.canLayAll0 (p.map bxD) = true ∧ PyData.depthAll (p.map bxD) ≤ 1 := by
    intro p
    induction p with
    | nil => exact ⟨by simp [PyData.canLayAll0], by simp [PyData.depthAll]⟩
    | cons b p ih =>
      rw [List.map_cons, PyData.canLayAll0, PyData.depthAll, ih.1]
      refine ⟨by simp [bxD, PyData.canLay0, PyData.canLayAll0], ?_⟩
      have : PyData.depth (bxD b) = 1 := by simp [bxD, PyData.depth, PyData.depthAll]
      rw [this]
      exact Nat.max_le.mpr ⟨Nat.le_refl _, ih.2⟩
  obtain ⟨h1, h2⟩ := h p
  simp only [pthD, SeqAt.shaped, PyData.canLay0, PyData.depth, h1, Bool.true_and, decide_eq_true_eq]
  omega
/-- steps of a way -/
structure Steps (L : List Bx) (p : List Bx) : Prop where
  mem : ∀ b ∈ p, b ∈ L
  ne : ∀ (i : Nat) b b', p[i]? = some b → p[i + 1]? = some b' → b ≠ b'
  alt : ∀ (i : Nat) b b', p[i]? = some b → p[i + 1]? = some b' → if i % 2 = 0 then b.2 = b'.2 else b.1 = b'.1
theorem IsWay.steps {L : List Bx} {r c : Nat} {p : List Bx} (h : IsWay L r c p) : Steps L p := ⟨h.mem, h.ne, h.alt⟩
/-- enumerate(zip(t, t2)) -/
theorem walk_enumZ {K : PySem.W.Frag} {a b : Addr} {xs ys : List V} {n : Nat} (hn : n = min xs.length ys.length) : Walk (IteZ K a b) n (fun H => SqT K H a xs ∧ SqT K H b ys)
    (fun i H v H' => ∃ T T2 x y, v = .ref T2 ∧ H T = none ∧ H T2 = none ∧ T ≠ T2 ∧ H' = upd (upd H T (.tup [x, y])) T2 (.tup [.int (i : Nat), .ref T]) ∧ xs[i]? = some x ∧ ys[i]? = some y) := by
  subst hn
  refine ⟨fun i H hi q => ?_, fun H q => ⟨xs, ys, q.1, q.2, by omega⟩, fun i H v H' hi q h => ?_⟩
  · have h1 : i < xs.length := by omega
    have h2 : i < ys.length := by omega
    exact ⟨xs, ys, xs[i], ys[i], q.1, q.2, by simp [h1], by simp [h2]⟩
  · obtain ⟨T, T2, x, y, h1, h2, h3, h4, h5, h6, h7⟩ := h
    exact ⟨T, T2, x, y, h1, h2, h3, h4, h5, h6 xs q.1, h7 ys q.2⟩
/-- the box as a list of two -/
theorem bx_get (b : Bx) (k : Nat) (hk : k < 2) : [V.int (b.1 : Int), V.int (b.2 : Int)][k]? = some (V.int ((if k = 0 then b.1 else b.2 : Nat) : Int)) := by
  rcases k with _ | _ | k
  · rfl
  · rfl
  · omega
end K15
end
section
set_option maxRecDepth 100000
set_option maxHeartbeats 4000000
namespace K15
open PySem PySem.Spec PyProof.Rows L2
variable {P : Program} {w : World} {K : PySem.W.Frag} {mg : Str → Option Value} {base : Heap} {C : Addr}
def sp_are_steps (C : Addr) : Sp := fun vs H Q _ => ∃ (p t : Addr) (bx : Bxs) (wd : Nat) (pth : List Bx), vs = [.ref p, .ref t] ∧ TblAt C H p bx wd ∧ GoodB bx wd ∧ WayT H t pth ∧ Steps (keys bx) pth ∧ 1 ≤ pth.length ∧ pth.length ≤ 1000 ∧ ∀ H', Same H H' → Q (.bl true) H'
theorem cal_are_steps (T : Txt K mg C) : Cal P w K mg base 4 "are_steps" (sp_are_steps C) := by
  have c_is_box := cal_is_box (P := P) (w := w) (base := base) T
  refine cal_of T.d_are_steps sc_are_steps (fun vs H Q E h => ?_) fun f cdv A outer s H vs Q E hr h => ?_
  · obtain ⟨p, t, bx, wd, pth, rfl, _⟩ := h
    rfl
  · obtain ⟨p, t, bx, wd, pth, rfl, ht, G, ⟨as, hw, W⟩, St, hl1, hl2, q⟩ := h
    have nd := sc_are_steps.nd
    have hu := hu_of hr
    refine ⟨_, (pss_cons (ps_if (PW.pt (pw_or (pt_not (pt_val (pe_callB call_isi (by rfl) T.b_isinstance (by decide +kernel) (pa_cons (pv 1) (pa_cons (pe_ty "tuple" (by rfl) T.b_tuple (by decide +kernel)) pa_nil))))) (pw_or1 (pt_not (pt_val (pe_callB (cr_all rfl) (by rfl) T.b_all (by decide +kernel) (pa_cons (pe_lc (own := [("box", 5)]) rfl nd (pi_tup (pv 1)) (blkOk_by (own := [("box", 5)]) (N := N_are_steps) (sc := defScope s_are_steps) (by decide +kernel)) (fun _ _ _ _ _ => (pg_name (i := 5) nd rfl (Or.inl rfl))) (fun _ _ _ _ _ => pts_nil) (fun _ _ _ _ _ => (pe_and (pe_c c_is_box hr (by decide) (by rfl) (pa_cons (pv 0) (pa_cons (pv 5) pa_nil))) (pe_one (pe_cmp (pc_din hu (pv 5) (pe_fldB (K := K) (by rfl) (pv 0) rfl)) rfl))))) pa_nil)))))))
(pss_one (ps_ret pe_bl))
pss_nil)
(pss_cons (ps_for PassesOwn.never rfl (pi_enumZ (by rfl) T.b_enumerate (by rfl) T.b_zip (pa_cons (pv 1) (pa_cons (pe_slice sl_tupA (pv 1) (po_some pe_int) po_none) pa_nil))) (pg_tup rfl (pgs_cons (pg_name (i := 2) nd rfl (Or.inl rfl)) (pgs_cons (pg_tup rfl (pgs_cons (pg_name (i := 3) nd rfl (Or.inl rfl)) (pgs_cons (pg_name (i := 4) nd rfl (Or.inl rfl)) pgs_nil))) pgs_nil)))
(pss_one (ps_if (PW.pt (pw_or (pt_cmpR (op_eqD hr.units) (pv 3) (pv 4) (nomark _)) (pw_or1 (pt_cmpR op_ne (pe_ix ix_tup (pv 3) (pe_op op_sub pe_int (pe_op op_mod (pv 2) pe_int)) (fun _ _ => rfl)) (pe_ix ix_tup (pv 4) (pe_op op_sub pe_int (pe_op op_mod (pv 2) pe_int)) (fun _ _ => rfl)) (nomark _)))))
(pss_one (ps_ret pe_bl))
pss_nil)))
(pss_one (ps_ret pe_bl)))), ?_⟩
    have hlen : (as.map V.ref).length = pth.length := by rw [List.length_map]; exact W.1
    have getB : ∀ {i : Nat} {v : V}, (as.map V.ref)[i]? = some v → ∃ a b, v = .ref a ∧ pth[i]? = some b ∧ H a = some (tupB b) := fun {i v} hv => by
      rw [List.getElem?_map, Option.map_eq_some_iff] at hv
      obtain ⟨a, ha, rfl⟩ := hv
      have hi : i < pth.length := by rw [← W.1]; exact (List.getElem?_eq_some_iff.mp ha).1
      exact ⟨a, pth[i], rfl, List.getElem?_eq_getElem hi, W.2 i a _ ha (List.getElem?_eq_getElem hi)⟩
    refine ⟨_, rfl, _, _, _, _, true, rfl, .ty "tuple", .base (.tup hw), kit_ty (by decide +kernel), true, rfl, iteF ?_⟩
    refine ⟨_, rfl, t, rfl, ⟨_, SqT.of hw⟩, fun D hD => ?_⟩
    refine lc_it walk_tup (fun i H' => Same H H' ∧ H' D = some (.lst ((List.replicate i true).map V.bl))) ⟨same_upd hD, upd_same⟩ (fun _ _ _ h => SqT.of (h.1 _ _ hw)) (fun i x H1 H2 hi hP hY => ?_) fun H1 hP => ?_
    · obtain ⟨s1, hL⟩ := hP
      obtain ⟨rfl, hx⟩ := hY
      obtain ⟨a, b, rfl, hb, ha⟩ := getB hx
      have hbk := St.mem b (List.mem_of_getElem? hb)
      obtain ⟨hb1, hb2⟩ := keys_lt G b hbk
      obtain ⟨z, hz⟩ := mem_keys.mp hbk
      obtain ⟨dx, d, fs, e1, e2, e3, e4, e5⟩ := (ht.same s1).ex
      refine ⟨rfl, _, rfl, _, rfl, p, a, bx, wd, b, rfl, ht.same s1, s1 _ _ ha, hb1, hb2, true, rfl, iteT ?_⟩
      refine ⟨_, rfl, _, rfl, p, C, dx, fs, _, rfl, e1, T.cl, T.nT, e4, d, _, rfl, DGet.t (k := keyK b) e5 (s1 _ _ ha), _, hL, ?_, same_mut s1 hD, ?_⟩
      · have : i < (as.map V.ref).length := hi
        rw [List.length_map, List.length_replicate]
        exact smallL (by omega)
      · rw [upd_same, valV_told, hz, List.replicate_succ', List.map_append]
        rfl
    · obtain ⟨s1, hL⟩ := hP
      refine ⟨D, _, rfl, SqL.of hL, ?_⟩
      have : (List.replicate (as.map V.ref).length true).all id = true := by simp
      rw [this]
      refine ⟨true, rfl, iteF ?_⟩
      have hw1 := s1 _ _ hw
      have hlm : 1 ≤ (as.map V.ref).length := by rw [hlen]; exact hl1
      have hs1 : HT.sIx (as.map V.ref).length 0 (some 1) = 1 := by
        show HT.sIx (as.map V.ref).length 0 (some ((1 : Nat) : Int)) = 1
        rw [HT.sIx_nat]
        omega
      refine ⟨_, rfl, _, rfl, 1, rfl, t, _, rfl, SqT.of hw1, fun z => ?_, fun z t2 n2 => ?_⟩
      · have z1 := z.1
        rw [hs1] at z1
        cases z1
      have hcut : cutV (as.map V.ref) (some 1) none = (as.map V.ref).drop 1 := by
        unfold cutV
        rw [hs1, HT.sIx_none]
        exact List.take_of_length_le (by rw [List.length_drop]; exact Nat.le_refl _)
      rw [hcut]
      have k2 : Same H (upd H1 t2 (.tup ((as.map V.ref).drop 1))) := same_new s1 n2
      refine ⟨t, t2, _, _, rfl, SqT.of (k2 _ _ hw), SqT.of upd_same, ?_⟩
      refine for_it (walk_enumZ (n := pth.length - 1) (by rw [List.length_drop, hlen]; omega)) (fun i σ H2 => ∃ y2 y3 y4 y5, σ = [some (.ref p), some (.ref t), y2, y3, y4, y5] ∧ Same H H2 ∧ H2 t2 = some (.tup ((as.map V.ref).drop 1)))
        ⟨_, _, _, _, rfl, k2, upd_same⟩ (fun i σ H2 _ ⟨_, _, _, _, _, k, h2⟩ => ⟨SqT.of (k _ _ hw), SqT.of h2⟩) ?_ ?_
      · rintro i x σ H2 H3 hi ⟨y2, y3, y4, y5, rfl, k3, h3⟩ ⟨TI, TO, x1, x2, rfl, nTI, nTO, nTT, rfl, f1, f2⟩
        obtain ⟨a1, b1, rfl, g1, ha1⟩ := getB f1
        rw [List.getElem?_drop] at f2
        obtain ⟨a2, b2, rfl, g2, ha2⟩ := getB f2
        rw [Nat.add_comm] at g2
        have k4 : Same H (upd (upd H2 TI (.tup [.ref a1, .ref a2])) TO (.tup [.int (i : Nat), .ref TI])) := same_new (same_new k3 nTI) (by rw [upd_ne (Ne.symm nTT)]; exact nTO)
        have h4 : (upd (upd H2 TI (.tup [.ref a1, .ref a2])) TO (.tup [.int (i : Nat), .ref TI])) t2 = some (.tup ((as.map V.ref).drop 1)) := by
          rw [upd_ne (ne_of_none h3 nTO), upd_ne (ne_of_none h3 nTI)]
          exact h3
        refine ⟨TO, _, rfl, SqT.of upd_same, rfl, _, _, rfl, _, _, rfl, TI, _, rfl, SqT.of (by rw [upd_ne nTT, upd_same]), rfl, _, _, rfl, _, _, rfl, rfl, rfl, ?_⟩
        refine ⟨_, rfl, _, rfl, _, _, dp_bx (k4 _ _ ha1), dp_bx (k4 _ _ ha2), shaped_bx _, shaped_bx _, _, rfl, ?_⟩
        rw [eqv_bx, decide_eq_false (St.ne i _ _ g1 g2)]
        refine iteF ?_
        have hk : (1 - (i : Int) % 2) = ((1 - i % 2 : Nat) : Int) := by omega
        have hk2 : 1 - i % 2 < 2 := by omega
        refine ⟨_, rfl, _, rfl, _, 2, rfl, rfl, (by show (0 : Int) < 2; decide), 1, _, rfl, rfl, a1, _, _, _, rfl, rfl, SqT.of (k4 _ _ ha1), by rw [hk]; exact atI_nat (bx_get b1 _ hk2), ?_⟩
        refine ⟨_, rfl, _, rfl, _, 2, rfl, rfl, (by show (0 : Int) < 2; decide), 1, _, rfl, rfl, a2, _, _, _, rfl, rfl, SqT.of (k4 _ _ ha2), by rw [hk]; exact atI_nat (bx_get b2 _ hk2), rfl, _, rfl, ?_⟩
        have halt := St.alt i _ _ g1 g2
        have hv : (if 1 - i % 2 = 0 then b1.1 else b1.2) = (if 1 - i % 2 = 0 then b2.1 else b2.2) := by
          by_cases h0 : i % 2 = 0
          · rw [if_pos h0] at halt
            rw [if_neg (by omega), if_neg (by omega)]
            exact halt
          · rw [if_neg h0] at halt
            rw [if_pos (by omega), if_pos (by omega)]
            exact halt
        rw [hv, decide_eq_true (show V.int _ = V.int _ from rfl)]
        exact iteF ⟨_, _, _, _, rfl, k4, h4⟩
      · rintro σ H2 ⟨y2, y3, y4, y5, rfl, k3, h3⟩
        exact q H2 k3

def sp_is_some_way (C : Addr) : Sp := fun vs H Q _ => ∃ (p t : Addr) (bx : Bxs) (wd : Nat) (pth : List Bx), vs = [.ref p, .ref t] ∧ TblAt C H p bx wd ∧ GoodB bx wd ∧ WayT H t pth ∧ Steps (keys bx) pth ∧ pth.length % 2 = 1 ∧ pth.length ≤ 1000 ∧ ∀ H', Same H H' → Q (.bl true) H'
theorem cal_is_some_way (T : Txt K mg C) : Cal P w K mg base 5 "is_some_way" (sp_is_some_way C) := by
  have c_are_steps := cal_are_steps (P := P) (w := w) (base := base) T
  refine cal_of T.d_is_some_way sc_is_some_way (fun vs H Q E h => ?_) fun f cdv A outer s H vs Q E hr h => ?_
  · obtain ⟨p, t, bx, wd, pth, rfl, _⟩ := h
    rfl
  · obtain ⟨p, t, bx, wd, pth, rfl, ht, G, W, St, ho, hl2, q⟩ := h
    have nd := sc_is_some_way.nd
    refine ⟨_, (pss_one (ps_ret (pe_and (pe_c c_are_steps hr (by decide) (by rfl) (pa_cons (pv 0) (pa_cons (pv 1) pa_nil))) (pe_one (pe_cmpR op_eq (pe_op op_mod (pe_callB call_len_seq (by rfl) T.b_len PySem.boot_len (pa_cons (pv 1) pa_nil)) pe_int) pe_int (nomark _)))))), ?_⟩
    refine ⟨_, rfl, _, rfl, p, t, bx, wd, pth, rfl, ht, G, W, St, by omega, hl2, fun H1 s1 => ⟨true, rfl, iteT ?_⟩⟩
    obtain ⟨as, hw, hW⟩ := W
    refine ⟨_, rfl, t, _, rfl, .inr (SqT.of (s1 _ _ hw)), _, 2, rfl, rfl, (by show (0 : Int) < 2; decide), rfl, ?_⟩
    refine bl_true (Q := Q) ?_ (q H1 s1)
    rw [List.length_map, hW.1]
    exact congrArg V.int (by omega)

def sp_is_way (C : Addr) : Sp := fun vs H Q _ => ∃ (p t : Addr) (bx : Bxs) (wd r c : Nat) (pth : List Bx), vs = [.ref p, .int (r : Int), .int (c : Int), .ref t] ∧ TblAt C H p bx wd ∧ GoodB bx wd ∧ r < bx.length ∧ c < wd ∧ WayT H t pth ∧ IsWay (keys bx) r c pth ∧ pth.length ≤ 1000 ∧ ∀ H', Same H H' → Q (.bl true) H'
theorem cal_is_way (T : Txt K mg C) : Cal P w K mg base 6 "is_way" (sp_is_way C) := by
  have c_is_some_way := cal_is_some_way (P := P) (w := w) (base := base) T
  have c_check_place := cal_check_place (P := P) (w := w) (base := base) T
  refine cal_of T.d_is_way sc_is_way (fun vs H Q E h => ?_) fun f cdv A outer s H vs Q E hr h => ?_
  · obtain ⟨p, t, bx, wd, r, c, pth, rfl, _⟩ := h
    rfl
  · obtain ⟨p, t, bx, wd, r, c, pth, rfl, ht, G, h1, h2, W, IW, hl2, q⟩ := h
    have nd := sc_is_way.nd
    refine ⟨_, (pss_cons (ps_expr (pe_c c_check_place hr (by decide) (by rfl) (pa_cons (pv 0) (pa_cons (pv 1) (pa_cons (pv 2) pa_nil)))))
(pss_one (ps_ret (pe_and (pe_c c_is_some_way hr (by decide) (by rfl) (pa_cons (pv 0) (pa_cons (pv 3) pa_nil))) (pe_and (pe_cmpR op_eq (pe_ix ix_tup (pe_ix ix_tup (pv 3) pe_int (fun _ _ => rfl)) pe_int (fun _ _ => rfl)) (pv 1) (nomark _)) (pe_one (pe_cmpR op_eq (pe_ix ix_tup (pe_ix ix_tup (pv 3) (pe_un un_neg pe_int) (fun _ _ => rfl)) pe_int (fun _ _ => rfl)) (pv 2) (nomark _)))))))), ?_⟩
    refine ⟨_, rfl, _, rfl, _, rfl, p, bx, wd, r, c, rfl, ht, h1, h2, ?_⟩
    refine ⟨_, rfl, _, rfl, p, t, bx, wd, pth, rfl, ht, G, W, IW.steps, IW.odd, hl2, fun H1 s1 => ⟨true, rfl, iteT ?_⟩⟩
    obtain ⟨as, hw, hW⟩ := W
    have hpos : 0 < pth.length := by have := IW.odd; omega
    obtain ⟨b0, hb0⟩ : ∃ b, pth[0]? = some b := ⟨_, List.getElem?_eq_getElem hpos⟩
    obtain ⟨bz, hbz⟩ : ∃ b, pth[pth.length - 1]? = some b := ⟨_, List.getElem?_eq_getElem (by omega)⟩
    obtain ⟨a0, ga0, ha0⟩ := hW.get hb0
    obtain ⟨az, gaz, haz⟩ := hW.get hbz
    have e0 : b0.1 = r := IW.first b0 hb0
    have ez : bz.2 = c := IW.last bz hbz
    refine ⟨_, rfl, t, _, 0, _, rfl, rfl, SqT.of (s1 _ _ hw), atI_nat (j := 0) (by rw [List.getElem?_map, ga0]; rfl), a0, _, 0, _, rfl, rfl, SqT.of (s1 _ _ ha0), atI_nat (j := 0) rfl, _, rfl, rfl, _, rfl, ?_⟩
    rw [e0, decide_eq_true (show V.int _ = V.int _ from rfl)]
    refine iteT ?_
    have hlast : atI (as.map V.ref) (-1) = some (.ref az) := by
      obtain ⟨l, x, hx⟩ := snoc_of (l := as) (by rw [hW.1]; exact hpos)
      have hll : as.length - 1 = l.length := by rw [hx]; simp
      rw [← hW.1, hll, hx, List.getElem?_append_right (Nat.le_refl _)] at gaz
      simp at gaz
      subst gaz
      rw [hx, List.map_append]
      exact atI_last _ _
    refine ⟨_, rfl, 1, rfl, t, _, -1, _, rfl, rfl, SqT.of (s1 _ _ hw), hlast, az, _, 1, _, rfl, rfl, SqT.of (s1 _ _ haz), atI_nat (j := 1) rfl, _, rfl, rfl, ?_⟩
    refine bl_true (Q := Q) ?_ (q H1 s1)
    rw [ez]
end K15
end
section
set_option maxRecDepth 100000
set_option maxHeartbeats 4000000
namespace K15
open PySem PySem.Spec PyProof.Rows L2
variable {P : Program} {w : World} {K : PySem.W.Frag} {mg : Str → Option Value} {base : Heap} {C : Addr}
theorem boxAt_formL {bx : Bxs} {b : Bx} {z : Str} (h : boxAt bx b = some z) : z = S (formL bx b) := by
  unfold formL
  rw [h]
theorem partsL_take (bx : Bxs) (p : List Bx) (i : Nat) (b : Bx) (h : p[i]? = some b) : (partsL bx p).take (i + 1) = (partsL bx p).take i ++ [partL bx i b] := by
  have : (partsL bx p)[i]? = some (partL bx i b) := by
    unfold partsL
    rw [List.getElem?_mapIdx, h]
    rfl
  rw [List.take_add_one, this]
  rfl
theorem partsL_len (bx : Bxs) (p : List Bx) : (partsL bx p).length = p.length := by simp [partsL]
theorem way_get {H : Hp} {as : List Addr} {p : List Bx} (W : WayAt H as p) {i : Nat} {v : V} (hv : (as.map V.ref)[i]? = some v) : ∃ a b, v = .ref a ∧ p[i]? = some b ∧ H a = some (tupB b) := by
  rw [List.getElem?_map, Option.map_eq_some_iff] at hv
  obtain ⟨a, ha, rfl⟩ := hv
  have hi : i < p.length := by rw [← W.1]; exact (List.getElem?_eq_some_iff.mp ha).1
  exact ⟨a, p[i], rfl, List.getElem?_eq_getElem hi, W.2 i a _ ha (List.getElem?_eq_getElem hi)⟩
def sp_told_by (C : Addr) : Sp := fun vs H Q _ => ∃ (p t : Addr) (bx : Bxs) (wd : Nat) (pth : List Bx), vs = [.ref p, .ref t] ∧ TblAt C H p bx wd ∧ GoodB bx wd ∧ WayT H t pth ∧ (∀ b ∈ pth, b ∈ keys bx) ∧ pth.length ≤ 100 ∧ ∀ H', Same H H' → Q (.str (S (tellsL bx pth))) H'
theorem cal_told_by (T : Txt K mg C) : Cal P w K mg base 3 "told_by" (sp_told_by C) := by
  have c_product := cal_product (P := P) (w := w) (base := base) T
  have c_inverse := cal_inverse (P := P) (w := w) (base := base) T
  refine cal_of T.d_told_by sc_told_by (fun vs H Q E h => ?_) fun f cdv A outer s H vs Q E hr h => ?_
  · obtain ⟨p, t, bx, wd, pth, rfl, _⟩ := h
    rfl
  · obtain ⟨p, t, bx, wd, pth, rfl, ht, G, ⟨as, hw, W⟩, hm, hl, q⟩ := h
    have nd := sc_told_by.nd
    have hu := hu_of hr
    refine ⟨_, (pss_cons (ps_setLc (i := 2) (own := [("box", 3)]) rfl nd rfl rfl (sw_true rfl rfl rfl (by decide +kernel)) (pi_tup (pv 1)) (blkOk_by (own := [("box", 3)]) (N := N_told_by) (sc := defScope s_told_by) (by decide +kernel)) (fun _ _ _ _ _ => (pg_name (i := 3) nd rfl (Or.inl rfl))) (fun _ _ _ _ _ => pts_nil) (fun _ _ _ _ _ => (pe_dget hu (pe_fldB (K := K) (by rfl) (pv 0) rfl) (pv 3) (fun _ _ => rfl))))
(pss_one (ps_ret (pe_c c_product hr (by decide) (by rfl) (pa_cons (pe_lc (own := [("at", 4), ("form", 5)]) rfl nd (pi_enum (by rfl) T.b_enumerate (pa_cons (pv 2) pa_nil)) (blkOk_by (own := [("at", 4), ("form", 5)]) (N := N_told_by) (sc := defScope s_told_by) (by decide +kernel)) (fun _ _ _ _ _ => (pg_tupB (K := K) (n := 2) (by rfl) rfl (pgs_cons (pg_name (i := 4) nd rfl (Or.inl rfl)) (pgs_cons (pg_name (i := 5) nd rfl (Or.inl rfl)) pgs_nil)))) (fun _ _ _ _ _ => pts_nil) (fun _ _ _ _ _ => (pe_ifExp (pt_cmpR op_eq (pe_op op_mod (pv 4) pe_int) pe_int (nomark _)) (pv 5) (pe_c c_inverse hr (by decide) (by rfl) (pa_cons (pv 5) pa_nil))))) pa_nil))))), ?_⟩
    have hlen : (as.map V.ref).length = pth.length := by rw [List.length_map]; exact W.1
    refine ⟨_, rfl, t, rfl, ⟨_, SqT.of hw⟩, fun D hD => ?_⟩
    refine lc_it walk_tup (fun i H' => Same H H' ∧ H' D = some (.lst (strL ((pth.map (formL bx)).take i)))) ⟨same_upd hD, by rw [upd_same]; rfl⟩ (fun _ _ _ h => SqT.of (h.1 _ _ hw)) (fun i x H1 H2 hi hP hY => ?_) fun H1 hP => ?_
    · obtain ⟨s1, hL⟩ := hP
      obtain ⟨rfl, hx⟩ := hY
      obtain ⟨a, b, rfl, hb, ha⟩ := way_get W hx
      obtain ⟨z, hz⟩ := mem_keys.mp (hm b (List.mem_of_getElem? hb))
      obtain ⟨dx, d, fs, e1, e2, e3, e4, e5⟩ := (ht.same s1).ex
      refine ⟨rfl, ?_⟩
      refine ⟨_, rfl, p, C, dx, fs, _, rfl, e1, T.cl, T.nT, e4, _, rfl, d, .str z, rfl, ?_, _, hL, ?_, same_mut s1 hD, ?_⟩
      · have := DGet.t (k := keyK b) e5 (s1 _ _ ha)
        rw [valV_told, hz] at this
        exact this
      · rw [strL_len, List.length_take, List.length_map]
        exact smallL (by omega)
      · rw [upd_same, List.take_add_one, List.getElem?_map, hb, boxAt_formL hz]
        show _ = some (HO.lst (strL (_ ++ [formL bx b])))
        rw [strL_snoc]
    · obtain ⟨s1, hL⟩ := hP
      rw [List.take_of_length_le (by rw [List.length_map, hlen]; exact Nat.le_refl _)] at hL
      refine ⟨_, rfl, D, _, rfl, SqL.of hL, fun D2 hD2 => ?_⟩
      refine lc_it walk_enum (fun i H' => Same H H' ∧ H' D = some (.lst (strL (pth.map (formL bx)))) ∧ H' D2 = some (.lst (strL ((partsL bx pth).take i)))) ⟨same_new s1 hD2, by rw [upd_ne (ne_of_none hL hD2)]; exact hL, by rw [upd_same]; rfl⟩ (fun _ _ _ h => SqL.of h.2.1) (fun i x H2 H3 hi hP hY => ?_) fun H2 hP => ?_
      · obtain ⟨s2, hL2, hL3⟩ := hP
        obtain ⟨T1, x1, x2, rfl, nT, rfl, e1, e2⟩ := hY
        cases e1
        have e2' : (strL (pth.map (formL bx)))[i]? = some x2 := e2
        obtain ⟨b, hb, rfl⟩ : ∃ b, pth[i]? = some b ∧ x2 = .str (S (formL bx b)) := by
          unfold strL at e2'
          rw [List.map_map, List.getElem?_map, Option.map_eq_some_iff] at e2'
          obtain ⟨b, h1, h2⟩ := e2'
          exact ⟨b, h1, h2.symm⟩
        have hil : i < pth.length := (List.getElem?_eq_some_iff.mp hb).1
        have hD2' : H D2 = none := by
          cases hh : H D2 with
          | none => rfl
          | some o => rw [s1 _ _ hh] at hD2; cases hD2
        have s3 : Same H (upd H2 T1 (.tup [.int (i : Nat), .str (S (formL bx b))])) := same_new s2 nT
        have h3 : (upd H2 T1 (.tup [.int (i : Nat), .str (S (formL bx b))])) D2 = some (.lst (strL ((partsL bx pth).take i))) := by rw [upd_ne (ne_of_none hL3 nT)]; exact hL3
        have h2 : (upd H2 T1 (.tup [.int (i : Nat), .str (S (formL bx b))])) D = some (.lst (strL (pth.map (formL bx)))) := by rw [upd_ne (ne_of_none hL2 nT)]; exact hL2
        have nDD : D ≠ D2 := ne_of_none hL hD2
        have hsz : (strL ((partsL bx pth).take i)).length < sizeLine := by
          rw [strL_len, List.length_take, partsL_len]
          exact smallL (by omega)
        have fin : ∀ v, v = V.str (S (partL bx i b)) → Same H (upd (upd H2 T1 (.tup [.int (i : Nat), .str (S (formL bx b))])) D2 (.lst (strL ((partsL bx pth).take i) ++ [v]))) ∧
            (upd (upd H2 T1 (.tup [.int (i : Nat), .str (S (formL bx b))])) D2 (.lst (strL ((partsL bx pth).take i) ++ [v]))) D = some (.lst (strL (pth.map (formL bx)))) ∧
            (upd (upd H2 T1 (.tup [.int (i : Nat), .str (S (formL bx b))])) D2 (.lst (strL ((partsL bx pth).take i) ++ [v]))) D2 = some (.lst (strL ((partsL bx pth).take (i + 1)))) := fun v hv => by
          subst hv
          refine ⟨same_mut s3 hD2', by rw [upd_ne nDD]; exact h2, ?_⟩
          rw [upd_same, partsL_take bx pth i b hb, strL_snoc]
        refine ⟨T1, _, rfl, SqT.of upd_same, rfl, _, _, rfl, _, _, rfl, rfl, ?_⟩
        refine ⟨rfl, ?_⟩
        refine ⟨_, rfl, _, 2, rfl, rfl, (by show (0 : Int) < 2; decide), rfl, _, rfl, ?_⟩
        by_cases h0 : i % 2 = 0
        · refine iteD (congrArg V.int (by omega)) ⟨_, rfl, _, h3, hsz, fin _ ?_⟩
          unfold partL
          rw [if_pos h0]
        · refine iteND (fun z => h0 (by have := V.int.inj z; omega)) ⟨_, rfl, formL bx b, rfl, (formL_ab G b).1.sg, by have := (formL_ab G b).2; omega, _, h3, hsz, fin _ ?_⟩
          unfold partL
          rw [if_neg h0]
      · obtain ⟨s2, hL2, hL3⟩ := hP
        have hn : (strL (pth.map (formL bx))).length = pth.length := by rw [strL_len, List.length_map]
        rw [hn, List.take_of_length_le (by rw [partsL_len]; exact Nat.le_refl _)] at hL3
        exact ⟨D2, partsL bx pth, rfl, hL3, partsL_sg G pth, by rw [partsL_len]; exact hl, fun H3 s3 => q H3 (s2.trans s3)⟩
def sp_by_way (C : Addr) : Sp := fun vs H Q _ => ∃ (p t : Addr) (bx : Bxs) (wd : Nat) (pth : List Bx), vs = [.ref p, .ref t] ∧ TblAt C H p bx wd ∧ GoodB bx wd ∧ WayT H t pth ∧ Steps (keys bx) pth ∧ pth.length % 2 = 1 ∧ pth.length ≤ 100 ∧ ∀ H', Same H H' → Q (.str (S (tellsL bx pth))) H'
theorem cal_by_way (T : Txt K mg C) : Cal P w K mg base 6 "by_way" (sp_by_way C) := by
  have c_is_some_way := cal_is_some_way (P := P) (w := w) (base := base) T
  have c_told_by := cal_told_by (P := P) (w := w) (base := base) T
  refine cal_of T.d_by_way sc_by_way (fun vs H Q E h => ?_) fun f cdv A outer s H vs Q E hr h => ?_
  · obtain ⟨p, t, bx, wd, pth, rfl, _⟩ := h
    rfl
  · obtain ⟨p, t, bx, wd, pth, rfl, ht, G, W, St, ho, hl, q⟩ := h
    have nd := sc_by_way.nd
    refine ⟨_, (pss_cons (ps_if (pt_not (pt_val (pe_c c_is_some_way hr (by decide) (by rfl) (pa_cons (pv 0) (pa_cons (pv 1) pa_nil)))))
(pss_one ps_never)
pss_nil)
(pss_one (ps_ret (pe_c c_told_by hr (by decide) (by rfl) (pa_cons (pv 0) (pa_cons (pv 1) pa_nil)))))), ?_⟩
    refine ⟨_, rfl, _, rfl, p, t, bx, wd, pth, rfl, ht, G, W, St, ho, by omega, fun H1 s1 => ⟨true, rfl, iteF ?_⟩⟩
    exact ⟨_, rfl, _, rfl, p, t, bx, wd, pth, rfl, ht.same s1, G, W.same s1, St.mem, hl, fun H2 s2 => q H2 (s1.trans s2)⟩
end K15
end
section
set_option maxRecDepth 100000
set_option maxHeartbeats 4000000
namespace K15
open PySem PySem.Spec PyProof.Rows L2
variable {P : Program} {w : World} {K : PySem.W.Frag} {mg : Str → Option Value} {base : Heap} {C : Addr}
/-! ### the pool the law draws from -/
structure Pool (H : Hp) (p c : Addr) : Prop where
  ex : ∃ (seed n : Int) (cs : List Int), H p = some (.lst [.int seed, .int n, .ref c]) ∧ H c = some (.lst (cs.map V.int))
  ne : p ≠ c
/-- all but the pool stays -/
structure Px (p c : Addr) (H H' : Hp) : Prop where
  keep : ∀ b o, H b = some o → b ≠ p → b ≠ c → H' b = some o
  pool : Pool H' p c
theorem Px.refl {p c : Addr} {H : Hp} (h : Pool H p c) : Px p c H H := ⟨fun _ _ e _ _ => e, h⟩
theorem Px.trans {p c : Addr} {H1 H2 H3 : Hp} (h1 : Px p c H1 H2) (h2 : Px p c H2 H3) : Px p c H1 H3 := ⟨fun b o e n1 n2 => h2.keep b o (h1.keep b o e n1 n2) n1 n2, h2.pool⟩
theorem Pool.same {H H' : Hp} {p c : Addr} (h : Pool H p c) (s : Same H H') : Pool H' p c := by
  obtain ⟨⟨seed, n, cs, e1, e2⟩, ne⟩ := h
  exact ⟨⟨seed, n, cs, s _ _ e1, s _ _ e2⟩, ne⟩
theorem Px.same {p c : Addr} {H1 H2 H3 : Hp} (h1 : Px p c H1 H2) (s : Same H2 H3) : Px p c H1 H3 := ⟨fun b o e n1 n2 => s _ _ (h1.keep b o e n1 n2), h1.pool.same s⟩
theorem Px.of_same {p c : Addr} {H H' : Hp} (h : Pool H p c) (s : Same H H') : Px p c H H' := (Px.refl h).same s
theorem Px.new {p c d : Addr} {H1 H2 : Hp} {o : HO} (h1 : Px p c H1 H2) (n : H2 d = none) : Px p c H1 (upd H2 d o) := h1.same (same_upd n)
/-- an object that H1 does not know may change -/
theorem Px.mut {p c d : Addr} {H1 H2 : Hp} {o : HO} (h1 : Px p c H1 H2) (n : H1 d = none) (hp : d ≠ p) (hc : d ≠ c) : Px p c H1 (upd H2 d o) := by
  refine ⟨fun b u e n1 n2 => by rw [upd_ne (ne_of_none e n)]; exact h1.keep b u e n1 n2, ?_⟩
  obtain ⟨⟨seed, k, cs, e1, e2⟩, ne⟩ := h1.pool
  exact ⟨⟨seed, k, cs, by rw [upd_ne (Ne.symm hp)]; exact e1, by rw [upd_ne (Ne.symm hc)]; exact e2⟩, ne⟩
theorem Pool.known {H : Hp} {p c : Addr} (h : Pool H p c) : H p ≠ none ∧ H c ≠ none := by
  obtain ⟨⟨seed, k, cs, e1, e2⟩, ne⟩ := h
  exact ⟨by rw [e1]; simp, by rw [e2]; simp⟩
theorem Pool.fresh {H : Hp} {p c d : Addr} (h : Pool H p c) (n : H d = none) : d ≠ p ∧ d ≠ c := ⟨fun z => h.known.1 (z ▸ n), fun z => h.known.2 (z ▸ n)⟩
/-- what the other object is -/
theorem Px.tup {p c a : Addr} {H H' : Hp} {xs : List V} (x : Px p c H H') (h : Pool H p c) (e : H a = some (.tup xs)) : H' a = some (.tup xs) := by
  obtain ⟨⟨seed, k, cs, e1, e2⟩, ne⟩ := h
  exact x.keep a _ e (ne_of e e1 (by intro z; cases z)) (ne_of e e2 (by intro z; cases z))

theorem Px.none {p c D : Addr} {H H1 : Hp} (x : Px p c H H1) (n : H1 D = none) : H D = none := by
  cases h : H D with
  | none => rfl
  | some o =>
    obtain ⟨h1, h2⟩ := x.pool.fresh n
    rw [x.keep D o h h1 h2] at n
    cases n
theorem ixN0 {n : Nat} (h : 0 < n) : ixN n 0 = some 0 := by
  unfold ixN
  rw [if_pos (by decide), if_pos (by omega)]
  rfl
theorem cmul31 {z y : Int} (h : 0 ≤ z ∧ z < 2147483647) : CMul z y := .inl ⟨by omega, by omega⟩
theorem p31 : (0 : Int) < 2147483647 := by decide
theorem p31b : (0 : Int) < 2147483399 := by decide
theorem hr31 (z : Int) : 0 ≤ z % 2147483647 ∧ z % 2147483647 < 2147483647 := ⟨Int.emod_nonneg z (by decide), Int.emod_lt_of_pos z (by decide)⟩
def sp_law_draw : Sp := fun vs H Q _ => ∃ (p c : Addr) (m : Int), vs = [.ref p, .int m] ∧ Pool H p c ∧ 1 ≤ m ∧ m < 1000 ∧ ∀ d H', 0 ≤ d → d < m → Px p c H H' → Q (.int d) H'
theorem cal_law_draw (T : Txt K mg C) : Cal P w K mg base 1 "_law_draw" sp_law_draw := by
  refine cal_of T.d_law_draw sc_law_draw (fun vs H Q E h => ?_) fun f cdv A outer s H vs Q E hr h => ?_
  · obtain ⟨p, c, m, rfl, _⟩ := h
    rfl
  · obtain ⟨p, c, m, rfl, hP, hm1, hm2, q⟩ := h
    have nd := sc_law_draw.nd
    obtain ⟨⟨seed, n, cs, hp, hc⟩, npc⟩ := hP
    have hm0 : 0 < m := by omega
    have cd : ∀ i, CDiv i m := fun i => ⟨hm0, by omega⟩
    refine ⟨_, (pss_cons (ps_asg (pe_op op_add (pe_ix ix_list (pv 0) pe_int (fun _ _ => rfl)) pe_int) (pg_sub (pv 0) pe_int set_list))
(pss_cons (ps_set (i := 2) nd rfl (Or.inl rfl) (pe_ix ix_list (pv 0) pe_int (fun _ _ => rfl)))
(pss_cons (ps_if (pt_cmpR op_gt (pe_callB call_len_seq (by rfl) T.b_len PySem.boot_len (pa_cons (pv 2) pa_nil)) pe_int (nomark _))
(pss_cons (ps_set (i := 3) nd rfl (Or.inl rfl) (pe_op op_mod (pe_callTy call_int1 (by rfl) T.b_int (by decide +kernel) (pa_cons (pe_ix ix_list (pv 2) pe_int (fun _ _ => rfl)) pa_nil)) (pv 1)))
(pss_cons (ps_asg (pe_op op_fdiv (pe_callTy call_int1 (by rfl) T.b_int (by decide +kernel) (pa_cons (pe_ix ix_list (pv 2) pe_int (fun _ _ => rfl)) pa_nil)) (pv 1)) (pg_sub (pv 2) pe_int set_list))
(pss_cons (ps_if (pt_cmpR op_eq (pe_ix ix_list (pv 2) pe_int (fun _ _ => rfl)) pe_int (nomark _))
(pss_one (ps_expr (pe_bm PySem.F.plainAttrs_list PySem.F.slot_list_pop PySem.F.type_list_pop mt_popAt (pv 2) (pa_cons pe_int pa_nil))))
pss_nil)
(pss_one (ps_ret (pv 3))))))
pss_nil)
(pss_cons (ps_set (i := 4) nd rfl (Or.inl rfl) (pe_op op_mod (pe_callTy call_int1 (by rfl) T.b_int (by decide +kernel) (pa_cons (pe_op op_mul (pe_op op_add (pe_ix ix_list (pv 0) pe_int (fun _ _ => rfl)) (pe_op op_mul pe_int (pe_ix ix_list (pv 0) pe_int (fun _ _ => rfl)))) pe_int) pa_nil)) pe_int))
(pss_cons (ps_set (i := 4) nd rfl (Or.inl rfl) (pe_op op_mod (pe_callTy call_int1 (by rfl) T.b_int (by decide +kernel) (pa_cons (pe_op op_mul (pv 4) (pe_op op_add (pe_op op_fdiv (pv 4) pe_int) pe_int)) pa_nil)) pe_int))
(pss_cons (ps_set (i := 4) nd rfl (Or.inl rfl) (pe_op op_mod (pe_callTy call_int1 (by rfl) T.b_int (by decide +kernel) (pa_cons (pe_op op_mul (pv 4) (pe_op op_add (pe_op op_fdiv (pv 4) pe_int) pe_int)) pa_nil)) pe_int))
(pss_one (ps_ret (pe_op op_mod (pe_callTy call_int1 (by rfl) T.b_int (by decide +kernel) (pa_cons (pe_op op_fdiv (pv 4) pe_int) pa_nil)) (pv 1)))))))))), ?_⟩
    refine ⟨_, rfl, p, _, 1, _, rfl, rfl, SqL.of hp, atI_nat (j := 1) rfl, _, 1, rfl, rfl, _, rfl, p, _, 1, 1, rfl, rfl, hp, rfl, ?_⟩
    generalize hH1 : upd H p (HO.lst ([V.int seed, V.int n, V.ref c].set 1 (V.int (n + 1)))) = H1
    have hp1 : H1 p = some (.lst [.int seed, .int (n + 1), .ref c]) := by rw [← hH1, upd_same]; rfl
    have hc1 : H1 c = some (.lst (cs.map V.int)) := by rw [← hH1, upd_ne (Ne.symm npc)]; exact hc
    have k1 : ∀ b o, H b = some o → b ≠ p → b ≠ c → H1 b = some o := fun b o e h1 h2 => by rw [← hH1, upd_ne h1]; exact e
    refine ⟨_, rfl, p, _, 2, _, rfl, rfl, SqL.of hp1, atI_nat (j := 2) rfl, ?_⟩
    refine ⟨_, rfl, c, _, rfl, .inl (SqL.of hc1), _, 0, rfl, rfl, _, rfl, ite2 (fun e => ?_) fun e => ?_⟩
    · obtain ⟨x, r, rfl⟩ : ∃ x r, cs = x :: r := by
        cases cs with
        | nil => exact absurd (of_decide_eq_true e) (by show ¬ (0 : Int) < 0; decide)
        | cons x r => exact ⟨x, r, rfl⟩
      refine ⟨_, rfl, c, _, 0, _, rfl, rfl, SqL.of hc1, atI_nat (j := 0) rfl, .inl ⟨x, rfl, _, rfl, x, m, rfl, rfl, hm0, ?_⟩⟩
      refine ⟨_, rfl, c, _, 0, _, rfl, rfl, SqL.of hc1, atI_nat (j := 0) rfl, .inl ⟨x, rfl, _, rfl, x, m, rfl, rfl, cd x, _, rfl, c, _, 0, 0, rfl, rfl, hc1, ixN0 (by simp), ?_⟩⟩
      have g1 : ∀ cs' : List Int, Px p c H (upd H1 c (.lst (cs'.map V.int))) := fun cs' =>
        ⟨fun b o e h1 h2 => by rw [upd_ne h2]; exact k1 b o e h1 h2, ⟨⟨seed, n + 1, cs', by rw [upd_ne npc]; exact hp1, upd_same⟩, npc⟩⟩
      have hd0 := Int.emod_nonneg x (show m ≠ 0 by omega)
      have hd1 := Int.emod_lt_of_pos x hm0
      refine ⟨_, rfl, c, _, 0, _, rfl, rfl, SqL.of upd_same, atI_nat (j := 0) rfl, rfl, _, rfl, ite2 (fun e2 => ?_) fun e2 => ?_⟩
      · refine ⟨_, rfl, .inl ⟨rfl, _, .inl (.inl upd_same)⟩, c, _, 0, 0, _, rfl, rfl, upd_same, by decide, by decide, (ixN_seq (ixN0 (by simp))).1, rfl, ?_⟩
        refine ⟨_, rfl, q _ _ hd0 hd1 ?_⟩
        rw [upd_upd]
        exact g1 r
      · refine ⟨_, rfl, q _ _ hd0 hd1 ?_⟩
        exact g1 (x / m :: r)
    · have P1 : Px p c H H1 := ⟨k1, ⟨⟨seed, n + 1, cs, hp1, hc1⟩, npc⟩⟩
      refine ⟨_, rfl, p, _, 0, _, rfl, rfl, SqL.of hp1, atI_nat (j := 0) rfl, _, rfl, p, _, 1, _, rfl, rfl, SqL.of hp1, atI_nat (j := 1) rfl, 7919, _, rfl, rfl, .inl (by decide), _, _, rfl, rfl, _, 48271, rfl, rfl, .inr (by decide), .inl ⟨_, rfl, _, 2147483647, rfl, rfl, p31, ?_⟩⟩
      refine ⟨_, rfl, _, rfl, _, 1009, rfl, rfl, ⟨by decide, by decide⟩, _, 69621, rfl, rfl, _, _, rfl, rfl, cmul31 (hr31 _), .inl ⟨_, rfl, _, 2147483647, rfl, rfl, p31, ?_⟩⟩
      refine ⟨_, rfl, _, rfl, _, 2003, rfl, rfl, ⟨by decide, by decide⟩, _, 40692, rfl, rfl, _, _, rfl, rfl, cmul31 (hr31 _), .inl ⟨_, rfl, _, 2147483399, rfl, rfl, p31b, ?_⟩⟩
      refine ⟨_, rfl, _, 16, rfl, rfl, ⟨by decide, by decide⟩, .inl ⟨_, rfl, _, rfl, _, m, rfl, rfl, hm0, ?_⟩⟩
      exact q _ _ (Int.emod_nonneg _ (by omega)) (Int.emod_lt_of_pos _ hm0) P1

def sp_law_flag : Sp := fun vs H Q _ => vs = [.bl true, .bl true] ∧ Q (.bl true) H
theorem cal_law_flag (T : Txt K mg C) : Cal P w K mg base 1 "_law_flag" sp_law_flag := by
  refine cal_of T.d_law_flag sc_law_flag (fun vs H Q E h => ?_) fun f cdv A outer s H vs Q E hr h => ?_
  · obtain ⟨rfl, _⟩ := h
    rfl
  · obtain ⟨rfl, q⟩ := h
    have nd := sc_law_flag.nd
    refine ⟨_, (pss_one (ps_ret (pe_and (pe_callB call_isi (by rfl) T.b_isinstance (by decide +kernel) (pa_cons (pv 0) (pa_cons (pe_ty "bool" (by rfl) T.b_bool (by decide +kernel)) pa_nil))) (pe_one (pe_cmpR op_eq (pv 0) (pv 1) (nomark _)))))), ?_⟩
    refine ⟨_, rfl, _, _, _, _, true, rfl, .ty "bool", .base (.bl true), kit_ty (by decide +kernel), true, rfl, iteT ?_⟩
    exact ⟨_, rfl, _, rfl, rfl, bl_true (Q := Q) rfl q⟩

/-- a text over a and b -/
def abV (l : List Nat) : List V := sgV l
def sp_law_form : Sp := fun vs H Q _ => ∃ (p c : Addr) (m : Nat), vs = [.ref p, .int (m : Int)] ∧ Pool H p c ∧ m ≤ 30 ∧ ∀ l H', AllAb l → l.length ≤ m → Px p c H H' → Q (.str (S l)) H'
theorem ab_at (d : Int) (h0 : 0 ≤ d) (h1 : d < 3) : ∃ x, atI (S [97, 97, 98]).cps.toList d = some x ∧ (x = 97 ∨ x = 98) := by
  have : d = 0 ∨ d = 1 ∨ d = 2 := by omega
  rcases this with rfl | rfl | rfl
  · exact ⟨97, rfl, .inl rfl⟩
  · exact ⟨97, rfl, .inl rfl⟩
  · exact ⟨98, rfl, .inr rfl⟩
theorem cal_law_form (T : Txt K mg C) : Cal P w K mg base 2 "_law_form" sp_law_form := by
  have c_law_draw := cal_law_draw (P := P) (w := w) (base := base) T
  refine cal_of T.d_law_form sc_law_form (fun vs H Q E h => ?_) fun f cdv A outer s H vs Q E hr h => ?_
  · obtain ⟨p, c, m, rfl, _⟩ := h
    rfl
  · obtain ⟨p, c, m, rfl, hP, hm, q⟩ := h
    have nd := sc_law_form.nd
    refine ⟨_, (pss_one (ps_ret (pe_join pe_str (pe_lc (own := [("_law_k", 2)]) rfl nd (pi_range1 (by rfl) T.b_range (pa_cons (pe_c c_law_draw hr (by decide) (by rfl) (pa_cons (pv 0) (pa_cons (pe_op op_add (pv 1) pe_int) pa_nil))) pa_nil)) (blkOk_by (own := [("_law_k", 2)]) (N := N_law_form) (sc := defScope s_law_form) (by decide +kernel)) (fun _ _ _ _ _ => (pg_name (i := 2) nd rfl (Or.inl rfl))) (fun _ _ _ _ _ => pts_nil) (fun _ _ _ _ _ => (pe_ix ix_str pe_str (pe_c c_law_draw hr (by decide) (by rfl) (pa_cons (pv 0) (pa_cons pe_int pa_nil))) (fun _ _ => rfl))))))), ?_⟩
    refine ⟨⟨_, rfl⟩, _, rfl, _, rfl, _, 1, rfl, rfl, p, c, _, rfl, hP, by omega, by omega, fun d H1 d0 d1 x1 => ?_⟩
    refine ⟨_, rfl, by omega, by omega, fun D hD => ?_⟩
    have hD0 := x1.none hD
    obtain ⟨nDp, nDc⟩ := x1.pool.fresh hD
    have hdm : d.toNat ≤ m := by omega
    refine lc_it (walk_range (lo := 0)) (fun i H' => Px p c H H' ∧ ∃ l, AllAb l ∧ l.length = i ∧ H' D = some (.lst (sgV l))) ⟨x1.new hD, [], (fun _ z => by cases z), rfl, upd_same⟩ (fun _ _ _ _ => trivial) (fun i x H2 H3 hi hP hY => ?_) fun H2 hP => ?_
    · obtain ⟨x2, l, hl, hli, hL⟩ := hP
      obtain ⟨rfl, rfl⟩ := hY
      refine ⟨rfl, _, rfl, p, c, 3, rfl, x2.pool, by decide, by decide, fun e H4 e0 e1 x4 => ?_⟩
      obtain ⟨g, hg, hg2⟩ := ab_at e e0 e1
      have hL4 := x4.keep _ _ hL nDp nDc
      refine ⟨_, _, g, rfl, rfl, small (by show 3 ≤ 100000; decide), hg, _, hL4, by rw [sgV_len]; exact smallL (by omega), (x2.trans x4).mut hD0 nDp nDc, l ++ [g], ?_, by simp [hli], by rw [upd_same, sgV_snoc]⟩
      intro y hy
      rcases List.mem_append.mp hy with hy | hy
      · exact hl y hy
      · rw [List.mem_singleton] at hy; subst hy; exact hg2
    · obtain ⟨x2, l, hl, hli, hL⟩ := hP
      refine ⟨S [], D, l.map fun c => S [c], rfl, rfl, .inl (SqL.of (by rw [hL, List.map_map]; rfl)), ?_, ?_⟩
      · rw [sum_1, S_len]
        simp
        omega
      · rw [join_sg]
        exact q l H2 hl (by omega) x2
end K15
end
section
set_option maxRecDepth 100000
set_option maxHeartbeats 4000000
namespace K15
open PySem PySem.Spec PyProof.Rows L2
variable {P : Program} {w : World} {K : PySem.W.Frag} {mg : Str → Option Value} {base : Heap} {C : Addr}
/-! ### rows as they are made -/
structure GoodR (n wd : Nat) (row : List (Option Str)) : Prop where
  len : row.length = wd
  forms : ∀ z, some z ∈ row → z.length ≤ n ∧ ∀ c ∈ z.cps.toList, c = 97 ∨ c = 98
def RowT (H : Hp) (n wd : Nat) (r : Addr) : Prop := ∃ row, H r = some (.tup (row.map optV)) ∧ GoodR n wd row
def RowL (p c : Addr) (H : Hp) (n wd : Nat) (r : Addr) : Prop := r ≠ p ∧ r ≠ c ∧ ∃ row, H r = some (.lst (row.map optV)) ∧ GoodR n wd row
def Dims (h wd : Nat) : Prop := 1 ≤ h ∧ h ≤ 12 ∧ 1 ≤ wd ∧ wd ≤ 12
def TabG (H : Hp) (a : Addr) (n : Nat) : Prop := ∃ (rs : List Addr) (wd : Nat), H a = some (.tup (rs.map V.ref)) ∧ (∀ r ∈ rs, RowT H n wd r) ∧ Dims rs.length wd
def LisG (p c : Addr) (H : Hp) (a : Addr) (n : Nat) : Prop := a ≠ p ∧ a ≠ c ∧ ∃ (rs : List Addr) (wd : Nat), H a = some (.lst (rs.map V.ref)) ∧ (∀ r ∈ rs, RowL p c H n wd r) ∧ Dims rs.length wd
theorem RowT.px {p c r : Addr} {H H' : Hp} {n wd : Nat} (h : RowT H n wd r) (hP : Pool H p c) (x : Px p c H H') : RowT H' n wd r := let ⟨row, e, g⟩ := h; ⟨row, x.tup hP e, g⟩
theorem RowT.same {r : Addr} {H H' : Hp} {n wd : Nat} (h : RowT H n wd r) (s : Same H H') : RowT H' n wd r := let ⟨row, e, g⟩ := h; ⟨row, s _ _ e, g⟩
theorem RowT.mutL {r D : Addr} {H : Hp} {n wd : Nat} {xs : List V} {o : HO} (h : RowT H n wd r) (hD : H D = some (.lst xs)) : RowT (upd H D o) n wd r := let ⟨row, e, g⟩ := h; ⟨row, by rw [upd_ne (ne_of e hD (by intro z; cases z))]; exact e, g⟩
theorem RowL.px {p c r : Addr} {H H' : Hp} {n wd : Nat} (h : RowL p c H n wd r) (x : Px p c H H') : RowL p c H' n wd r := let ⟨h1, h2, row, e, g⟩ := h; ⟨h1, h2, row, x.keep _ _ e h1 h2, g⟩
theorem RowL.same {p c r : Addr} {H H' : Hp} {n wd : Nat} (h : RowL p c H n wd r) (s : Same H H') : RowL p c H' n wd r := let ⟨h1, h2, row, e, g⟩ := h; ⟨h1, h2, row, s _ _ e, g⟩
theorem RowL.mut {p c r D : Addr} {H : Hp} {n wd : Nat} {o : HO} (h : RowL p c H n wd r) (ne : r ≠ D) : RowL p c (upd H D o) n wd r := let ⟨h1, h2, row, e, g⟩ := h; ⟨h1, h2, row, by rw [upd_ne ne]; exact e, g⟩
theorem TabG.px {p c a : Addr} {H H' : Hp} {n : Nat} (h : TabG H a n) (hP : Pool H p c) (x : Px p c H H') : TabG H' a n := let ⟨rs, wd, e, r, d⟩ := h; ⟨rs, wd, x.tup hP e, fun r hr => (‹∀ r ∈ rs, RowT H n wd r› r hr).px hP x, d⟩
theorem GoodR.snoc {n i : Nat} {row : List (Option Str)} (h : GoodR n i row) {o : Option Str} (ho : ∀ z, o = some z → z.length ≤ n ∧ ∀ c ∈ z.cps.toList, c = 97 ∨ c = 98) : GoodR n (i + 1) (row ++ [o]) := by
  refine ⟨by simp [h.len], fun z hz => ?_⟩
  rcases List.mem_append.mp hz with hz | hz
  · exact h.forms z hz
  · exact ho z (List.mem_singleton.mp hz).symm
theorem GoodR.nil (n : Nat) : GoodR n 0 [] := ⟨rfl, fun z hz => by cases hz⟩
theorem optV_snoc (row : List (Option Str)) (o : Option Str) : (row ++ [o]).map optV = row.map optV ++ [optV o] := by simp
theorem atI_in {α : Type} {xs : List α} {i : Int} (h0 : 0 ≤ i) (h1 : i < xs.length) : ∃ v, atI xs i = some v ∧ xs[i.toNat]? = some v := by
  obtain ⟨j, rfl⟩ := Int.eq_ofNat_of_zero_le h0
  have hj : j < xs.length := by omega
  exact ⟨xs[j], atI_nat (List.getElem?_eq_getElem hj), List.getElem?_eq_getElem hj⟩
theorem row_boxL {row : List (Option Str)} {i : Nat} {v : V} (h : (row.map optV)[i]? = some v) : ∃ o, row[i]? = some o ∧ v = optV o := by
  rw [List.getElem?_map, Option.map_eq_some_iff] at h
  obtain ⟨o, ho, rfl⟩ := h
  exact ⟨o, ho, rfl⟩
theorem sg_at (d : Int) (h0 : 0 ≤ d) (h1 : d < 6) : ∃ x, atI (S [97, 97, 98, 98, 65, 66]).cps.toList d = some x ∧ Sg x := by
  have : d = 0 ∨ d = 1 ∨ d = 2 ∨ d = 3 ∨ d = 4 ∨ d = 5 := by omega
  rcases this with rfl | rfl | rfl | rfl | rfl | rfl
  · exact ⟨97, rfl, by decide⟩
  · exact ⟨97, rfl, by decide⟩
  · exact ⟨98, rfl, by decide⟩
  · exact ⟨98, rfl, by decide⟩
  · exact ⟨65, rfl, by decide⟩
  · exact ⟨66, rfl, by decide⟩
def sp_law_signed : Sp := fun vs H Q _ => ∃ (p c : Addr), vs = [.ref p] ∧ Pool H p c ∧ ∀ l H', AllSg l → l.length ≤ 4 → Px p c H H' → Q (.str (S l)) H'
theorem cal_law_signed (T : Txt K mg C) : Cal P w K mg base 2 "_law_signed" sp_law_signed := by
  have c_law_draw := cal_law_draw (P := P) (w := w) (base := base) T
  refine cal_of T.d_law_signed sc_law_signed (fun vs H Q E h => ?_) fun f cdv A outer s H vs Q E hr h => ?_
  · obtain ⟨p, c, rfl, _⟩ := h
    rfl
  · obtain ⟨p, c, rfl, hP, q⟩ := h
    have nd := sc_law_signed.nd
    refine ⟨_, (pss_one (ps_ret (pe_join pe_str (pe_lc (own := [("_law_k", 1)]) rfl nd (pi_range1 (by rfl) T.b_range (pa_cons (pe_c c_law_draw hr (by decide) (by rfl) (pa_cons (pv 0) (pa_cons pe_int pa_nil))) pa_nil)) (blkOk_by (own := [("_law_k", 1)]) (N := N_law_signed) (sc := defScope s_law_signed) (by decide +kernel)) (fun _ _ _ _ _ => (pg_name (i := 1) nd rfl (Or.inl rfl))) (fun _ _ _ _ _ => pts_nil) (fun _ _ _ _ _ => (pe_ix ix_str pe_str (pe_c c_law_draw hr (by decide) (by rfl) (pa_cons (pv 0) (pa_cons pe_int pa_nil))) (fun _ _ => rfl))))))), ?_⟩
    refine ⟨⟨_, rfl⟩, _, rfl, p, c, 4, rfl, hP, by decide, by decide, fun d H1 d0 d1 x1 => ?_⟩
    refine ⟨_, rfl, by omega, by omega, fun D hD => ?_⟩
    have hD0 := x1.none hD
    obtain ⟨nDp, nDc⟩ := x1.pool.fresh hD
    have hdm : d.toNat ≤ 4 := by omega
    refine lc_it (walk_range (lo := 0)) (fun i H' => Px p c H H' ∧ ∃ l, AllSg l ∧ l.length = i ∧ H' D = some (.lst (sgV l))) ⟨x1.new hD, [], (fun _ z => by cases z), rfl, upd_same⟩ (fun _ _ _ _ => trivial) (fun i x H2 H3 hi hP hY => ?_) fun H2 hP => ?_
    · obtain ⟨x2, l, hl, hli, hL⟩ := hP
      obtain ⟨rfl, rfl⟩ := hY
      refine ⟨rfl, _, rfl, p, c, 6, rfl, x2.pool, by decide, by decide, fun e H4 e0 e1 x4 => ?_⟩
      obtain ⟨g, hg, hg2⟩ := sg_at e e0 e1
      have hL4 := x4.keep _ _ hL nDp nDc
      refine ⟨_, _, g, rfl, rfl, small (by show 6 ≤ 100000; decide), hg, _, hL4, by rw [sgV_len]; exact smallL (by omega), (x2.trans x4).mut hD0 nDp nDc, l ++ [g], ?_, by simp [hli], by rw [upd_same, sgV_snoc]⟩
      intro y hy
      rcases List.mem_append.mp hy with hy | hy
      · exact hl y hy
      · rw [List.mem_singleton] at hy; subst hy; exact hg2
    · obtain ⟨x2, l, hl, hli, hL⟩ := hP
      refine ⟨S [], D, l.map fun c => S [c], rfl, rfl, .inl (SqL.of (by rw [hL, List.map_map]; rfl)), ?_, ?_⟩
      · rw [sum_1, S_len]
        simp
        omega
      · rw [join_sg]
        exact q l H2 hl (by omega) x2
def sp_law_size : Sp := fun vs H Q _ => ∃ (p c : Addr) (m : Nat), vs = [.ref p, .int (m : Int)] ∧ Pool H p c ∧ 1 ≤ m ∧ m ≤ 12 ∧ ∀ (n : Nat) H', 1 ≤ n → n ≤ m → Px p c H H' → Q (.int (n : Int)) H'
theorem cal_law_size (T : Txt K mg C) : Cal P w K mg base 2 "_law_size" sp_law_size := by
  have c_law_draw := cal_law_draw (P := P) (w := w) (base := base) T
  refine cal_of T.d_law_size sc_law_size (fun vs H Q E h => ?_) fun f cdv A outer s H vs Q E hr h => ?_
  · obtain ⟨p, c, m, rfl, _⟩ := h
    rfl
  · obtain ⟨p, c, m, rfl, hP, h1, h2, q⟩ := h
    have nd := sc_law_size.nd
    refine ⟨_, (pss_one (ps_ret (pe_op op_add pe_int (pe_callB (call_max2 rfl) (by rfl) T.b_max (by decide +kernel) (pa_cons (pe_c c_law_draw hr (by decide) (by rfl) (pa_cons (pv 0) (pa_cons (pv 1) pa_nil))) (pa_cons (pe_c c_law_draw hr (by decide) (by rfl) (pa_cons (pv 0) (pa_cons (pv 1) pa_nil))) pa_nil)))))), ?_⟩
    refine ⟨_, rfl, _, rfl, p, c, _, rfl, hP, by omega, by omega, fun d H1 d0 d1 x1 => ?_⟩
    refine ⟨_, rfl, _, rfl, p, c, _, rfl, x1.pool, by omega, by omega, fun e H2 e0 e1 x2 => ?_⟩
    refine ⟨d, e, rfl, 1, _, rfl, rfl, ?_⟩
    have hn : 1 + (if e > d then e else d) = ((1 + (if e > d then e else d).toNat : Nat) : Int) := by
      split <;> omega
    show Q (.int (1 + (if e > d then e else d))) H2
    rw [hn]
    refine q _ H2 (by omega) ?_ (x1.trans x2)
    split <;> omega
def sp_law_holes : Sp := fun vs H Q _ => ∃ (p c a : Addr) (n : Nat), vs = [.ref p, .ref a] ∧ Pool H p c ∧ LisG p c H a n ∧ ∀ t H', TabG H' t n → Px p c H H' → Q (.ref t) H'
theorem cal_law_holes (T : Txt K mg C) : Cal P w K mg base 2 "_law_holes" sp_law_holes := by
  have c_law_draw := cal_law_draw (P := P) (w := w) (base := base) T
  refine cal_of T.d_law_holes sc_law_holes (fun vs H Q E h => ?_) fun f cdv A outer s H vs Q E hr h => ?_
  · obtain ⟨p, c, a, n, rfl, _⟩ := h
    rfl
  · obtain ⟨p, c, a, n, rfl, hP, ⟨nap, nac, rs, wd, ha, hrs, hd1, hd2, hd3, hd4⟩, q⟩ := h
    have nd := sc_law_holes.nd
    refine ⟨_, (pss_cons (ps_set (i := 2) nd rfl (Or.inr rfl) (pe_ix ix_list (pe_lst (pa_cons pe_int (pa_cons pe_int (pa_cons pe_int (pa_cons pe_int (pa_cons pe_int pa_nil)))))) (pe_c c_law_draw hr (by decide) (by rfl) (pa_cons (pv 0) (pa_cons pe_int pa_nil))) (fun _ _ => rfl)))
(pss_one (ps_ret (pe_callTy call_tuple_of (by rfl) T.b_tuple (by decide +kernel) (pa_cons (pe_lc (own := [("_law_row", 3)]) rfl nd (pi_list (pv 1)) (blkOk_by (own := [("_law_row", 3)]) (N := N_law_holes) (sc := defScope s_law_holes) (by decide +kernel)) (fun _ _ _ _ _ => (pg_name (i := 3) nd rfl (Or.inl rfl))) (fun _ _ _ _ _ => pts_nil) (fun _ _ _ _ _ => (pe_callTy (call_tuple_ofB (K := K) (by rfl)) (by rfl) T.b_tuple (by decide +kernel) (pa_cons (pe_lc (own := [("_law_box", 4)]) rfl nd (pi_listB (K := K) (by rfl) (pv 3)) (blkOk_in (own := [("_law_box", 4)]) (N := N_law_holes) (sc := defScope s_law_holes) (by decide +kernel)) (fun _ _ _ _ _ => (pg_name (i := 4) nd rfl (Or.inl rfl))) (fun _ _ _ _ _ => pts_nil) (fun _ _ _ _ _ => (pe_ifExp (pt_cmpR op_lt (pe_c c_law_draw hr (by decide) (by rfl) (pa_cons (pv 0) (pa_cons pe_int pa_nil))) (pv 2) (nomark _)) pe_non (pv 4)))) pa_nil)))) pa_nil))))), ?_⟩
    refine ⟨small (by show 5 ≤ 100000; decide), fun o no => ?_⟩
    have x0 : Px p c H (upd H o (.lst [.int 0, .int 1, .int 2, .int 3, .int 5])) := (Px.refl hP).new no
    obtain ⟨nop, noc⟩ := hP.fresh no
    refine ⟨_, rfl, p, c, 5, rfl, x0.pool, by decide, by decide, fun d H1 d0 d1 x1 => ?_⟩
    obtain ⟨v, hv, hv2⟩ := atI_in (xs := [V.int 0, .int 1, .int 2, .int 3, .int 5]) d0 d1
    obtain ⟨ch, rfl⟩ : ∃ ch, v = .int ch := by
      have := List.mem_of_getElem? hv2
      simp only [List.mem_cons, List.not_mem_nil, or_false] at this
      rcases this with rfl | rfl | rfl | rfl | rfl <;> exact ⟨_, rfl⟩
    refine ⟨o, _, d, _, rfl, rfl, SqL.of (x1.keep _ _ upd_same nop noc), hv, ?_⟩
    have X1 := x0.trans x1
    have ha1 := X1.keep _ _ ha nap nac
    refine ⟨_, rfl, a, rfl, ⟨_, SqL.of ha1⟩, fun D hD => ?_⟩
    have hD0 := X1.none hD
    obtain ⟨nDp, nDc⟩ := X1.pool.fresh hD
    refine lc_it walk_list (fun i H' => Px p c H H' ∧ ∃ ts : List Addr, ts.length = i ∧ H' D = some (.lst (ts.map V.ref)) ∧ ∀ t ∈ ts, RowT H' n wd t) ⟨X1.new hD, [], rfl, upd_same, fun _ z => by cases z⟩ (fun _ _ _ h => SqL.of (h.1.keep _ _ ha nap nac)) (fun i x H3 H2 hi hPi hY => ?_) fun H2 hPi => ?_
    · obtain ⟨x2, ts, hts, hL, hR⟩ := hPi
      obtain ⟨rfl, hx⟩ := hY
      rw [List.getElem?_map, Option.map_eq_some_iff] at hx
      obtain ⟨r, hri, rfl⟩ := hx
      obtain ⟨nrp, nrc, row, hrow, hg⟩ := hrs r (List.mem_of_getElem? hri)
      have hrow2 := x2.keep _ _ hrow nrp nrc
      refine ⟨rfl, _, rfl, r, rfl, ⟨_, SqL.of hrow2⟩, fun D2 hD2 => ?_⟩
      obtain ⟨nEp, nEc⟩ := x2.pool.fresh hD2
      refine lc_it walk_list (fun j H' => Px p c H2 H' ∧ ∃ row', GoodR n j row' ∧ H' D2 = some (.lst (row'.map optV))) ⟨(Px.refl x2.pool).new hD2, [], GoodR.nil n, upd_same⟩ (fun _ _ _ h => SqL.of (h.1.keep _ _ hrow2 nrp nrc)) (fun j x H5 H4 hj hPj hY => ?_) fun H4 hPj => ?_
      · obtain ⟨x4, row', hg', hL4⟩ := hPj
        obtain ⟨rfl, hx⟩ := hY
        obtain ⟨o', ho', rfl⟩ := row_boxL hx
        refine ⟨rfl, _, rfl, p, c, 6, rfl, x4.pool, by decide, by decide, fun e H6 e0 e1 x6 => ?_⟩
        have hL6 := x6.keep _ _ hL4 nEp nEc
        have hjr : j < (row.map optV).length := hj
        have hgl := hg.len
        have hgl' := hg'.len
        have hsz : (row'.map optV).length < sizeLine := by
          rw [List.length_map] at hjr ⊢
          exact smallL (by omega)
        refine ⟨_, rfl, e, ch, rfl, rfl, _, rfl, ite2 (fun _ => ?_) fun _ => ?_⟩
        · refine ⟨_, hL6, hsz, (x4.trans x6).mut hD2 nEp nEc, row' ++ [none], hg'.snoc (fun z hz => by cases hz), by rw [upd_same, optV_snoc]; rfl⟩
        · refine ⟨_, rfl, _, hL6, hsz, (x4.trans x6).mut hD2 nEp nEc, row' ++ [o'], hg'.snoc (fun z hz => hg.forms z (by rw [← hz]; exact List.mem_of_getElem? ho')), by rw [upd_same, optV_snoc]⟩
      · obtain ⟨x4, row', hg', hL4⟩ := hPj
        rw [List.length_map, hg.len] at hg'
        refine ⟨D2, _, rfl, .inl ⟨SqL.of hL4, fun t nt => ?_⟩⟩
        have hL5 := same_upd (o := .tup (row'.map optV)) nt _ _ (x4.keep _ _ hL nDp nDc)
        have x5 : Px p c H2 (upd H4 t (.tup (row'.map optV))) := x4.new nt
        refine ⟨_, hL5, ?_, (x2.trans x5).mut hD0 nDp nDc, ts ++ [t], by simp [hts], by rw [upd_same, List.map_append]; rfl, fun t' ht' => ?_⟩
        · have : i < (rs.map V.ref).length := hi
          rw [List.length_map] at this ⊢
          exact smallL (by omega)
        · rcases List.mem_append.mp ht' with ht' | ht'
          · exact ((hR t' ht').px x2.pool x5).mutL hL5
          · rw [List.mem_singleton] at ht'
            subst ht'
            exact RowT.mutL ⟨row', upd_same, hg'⟩ hL5
    · obtain ⟨x2, ts, hts, hL, hR⟩ := hPi
      rw [List.length_map] at hts
      refine ⟨D, _, rfl, .inl ⟨SqL.of hL, fun t nt => ?_⟩⟩
      exact q t _ ⟨ts, wd, upd_same, fun r hr => (hR r hr).same (same_upd nt), by omega, by omega, hd3, hd4⟩ (x2.new nt)
end K15
end
section
set_option maxRecDepth 100000
set_option maxHeartbeats 4000000
namespace K15
open PySem PySem.Spec PyProof.Rows L2
variable {P : Program} {w : World} {K : PySem.W.Frag} {mg : Str → Option Value} {base : Heap} {C : Addr}
theorem AllAb.cat {a b : List Nat} (h : AllAb a) (g : AllAb b) : AllAb (a ++ b) := fun x hx => (List.mem_append.mp hx).elim (h x) (g x)
theorem AllSg.cat {a b : List Nat} (h : AllSg a) (g : AllSg b) : AllSg (a ++ b) := fun x hx => (List.mem_append.mp hx).elim (h x) (g x)
theorem strL_at {ls : List (List Nat)} {i : Nat} {v : V} (h : (strL ls)[i]? = some v) : ∃ l, ls[i]? = some l ∧ v = .str (S l) ∧ l ∈ ls := by
  unfold strL at h
  rw [List.getElem?_map, Option.map_eq_some_iff] at h
  obtain ⟨l, hl, rfl⟩ := h
  exact ⟨l, hl, rfl, List.mem_of_getElem? hl⟩
def sp_law_made : Sp := fun vs H Q _ => ∃ (p c : Addr) (m k : Nat), vs = [.ref p, .int (m : Int), .int (k : Int)] ∧ Pool H p c ∧ 1 ≤ m ∧ m ≤ 12 ∧ k ≤ 15 ∧ ∀ t H', TabG H' t (k + k) → Px p c H H' → Q (.ref t) H'
theorem cal_law_made (T : Txt K mg C) : Cal P w K mg base 3 "_law_made" sp_law_made := by
  have c_law_form := cal_law_form (P := P) (w := w) (base := base) T
  have c_law_size := cal_law_size (P := P) (w := w) (base := base) T
  have c_law_holes := cal_law_holes (P := P) (w := w) (base := base) T
  refine cal_of T.d_law_made sc_law_made (fun vs H Q E h => ?_) fun f cdv A outer s H vs Q E hr h => ?_
  · obtain ⟨p, c, m, k, rfl, _⟩ := h
    rfl
  · obtain ⟨p, c, m, k, rfl, hP, h1, h2, hk, q⟩ := h
    have nd := sc_law_made.nd
    refine ⟨_, (pss_cons (ps_setLc (i := 3) (own := [("_law_k", 5)]) rfl nd rfl rfl (sw_true rfl rfl rfl (by decide +kernel)) (pi_range1 (by rfl) T.b_range (pa_cons (pe_c c_law_size hr (by decide) (by rfl) (pa_cons (pv 0) (pa_cons (pv 1) pa_nil))) pa_nil)) (blkOk_by (own := [("_law_k", 5)]) (N := N_law_made) (sc := defScope s_law_made) (by decide +kernel)) (fun _ _ _ _ _ => (pg_name (i := 5) nd rfl (Or.inl rfl))) (fun _ _ _ _ _ => pts_nil) (fun _ _ _ _ _ => (pe_c c_law_form hr (by decide) (by rfl) (pa_cons (pv 0) (pa_cons (pv 2) pa_nil)))))
(pss_cons (ps_set (i := 4) nd rfl (Or.inr rfl) (pe_lc (own := [("_law_k", 5)]) rfl nd (pi_range1 (by rfl) T.b_range (pa_cons (pe_c c_law_size hr (by decide) (by rfl) (pa_cons (pv 0) (pa_cons (pv 1) pa_nil))) pa_nil)) (blkOk_by (own := [("_law_k", 5)]) (N := N_law_made) (sc := defScope s_law_made) (by decide +kernel)) (fun _ _ _ _ _ => (pg_name (i := 5) nd rfl (Or.inl rfl))) (fun _ _ _ _ _ => pts_nil) (fun _ _ _ _ _ => (pe_c c_law_form hr (by decide) (by rfl) (pa_cons (pv 0) (pa_cons (pv 2) pa_nil))))))
(pss_one (ps_ret (pe_c c_law_holes hr (by decide) (by rfl) (pa_cons (pv 0) (pa_cons (pe_lc (own := [("_law_stem", 6)]) rfl nd (pi_list (pv 3)) (blkOk_by (own := [("_law_stem", 6)]) (N := N_law_made) (sc := defScope s_law_made) (by decide +kernel)) (fun _ _ _ _ _ => (pg_name (i := 6) nd rfl (Or.inr rfl))) (fun _ _ _ _ _ => pts_nil) (fun _ _ _ _ _ => (pe_lc (own := [("_law_ending", 7)]) rfl nd (pi_listB (K := K) (by rfl) (pv 4)) (blkOk_in (own := [("_law_ending", 7)]) (N := N_law_made) (sc := defScope s_law_made) (by decide +kernel)) (fun _ _ _ _ _ => (pg_name (i := 7) nd rfl (Or.inl rfl))) (fun _ _ _ _ _ => pts_nil) (fun _ _ _ _ _ => (pe_op op_add_str (pv 6) (pv 7)))))) pa_nil))))))), ?_⟩
    refine ⟨_, rfl, _, rfl, p, c, m, rfl, hP, h1, h2, fun n1 H1 a1 b1 x1 => ?_⟩
    refine ⟨_, rfl, by omega, by omega, fun D hD => ?_⟩
    have hD0 := x1.none hD
    obtain ⟨nDp, nDc⟩ := x1.pool.fresh hD
    refine lc_it (walk_range (lo := 0)) (fun i H' => Px p c H H' ∧ ∃ ls : List (List Nat), ls.length = i ∧ H' D = some (.lst (strL ls)) ∧ ∀ l ∈ ls, AllAb l ∧ l.length ≤ k) ⟨x1.new hD, [], rfl, upd_same, fun _ z => by cases z⟩ (fun _ _ _ _ => trivial) (fun i x H3 H2 hi hPi hY => ?_) fun H2 hPi => ?_
    · obtain ⟨x2, ls, hls, hL, hR⟩ := hPi
      obtain ⟨rfl, rfl⟩ := hY
      have hi' : i < n1 := hi
      refine ⟨rfl, _, rfl, _, rfl, p, c, k, rfl, x2.pool, by omega, fun l H4 hl hll x4 => ?_⟩
      refine ⟨_, x4.keep _ _ hL nDp nDc, by rw [strL_len]; exact smallL (by omega), (x2.trans x4).mut hD0 nDp nDc, ls ++ [l], by simp [hls], by rw [upd_same, strL_snoc], fun l' hl' => ?_⟩
      rcases List.mem_append.mp hl' with hl' | hl'
      · exact hR l' hl'
      · rw [List.mem_singleton] at hl'; subst hl'; exact ⟨hl, hll⟩
    · obtain ⟨x2, ls, hls, hL, hR⟩ := hPi
      have hls' : ls.length = n1 := hls
      refine ⟨_, rfl, _, rfl, p, c, m, rfl, x2.pool, h1, h2, fun n2 H3 a2 b2 x3 => ?_⟩
      have X3 := x2.trans x3
      have hL3 := x3.keep _ _ hL nDp nDc
      refine ⟨_, rfl, by omega, by omega, fun E hE => ?_⟩
      have hE0 := X3.none hE
      obtain ⟨nEp, nEc⟩ := x3.pool.fresh hE
      have nDE : D ≠ E := ne_of_none hL3 hE
      refine lc_it (walk_range (lo := 0)) (fun i H' => Px p c H H' ∧ H' D = some (.lst (strL ls)) ∧ ∃ es : List (List Nat), es.length = i ∧ H' E = some (.lst (strL es)) ∧ ∀ l ∈ es, AllAb l ∧ l.length ≤ k) ⟨X3.new hE, by rw [upd_ne nDE]; exact hL3, [], rfl, upd_same, fun _ z => by cases z⟩ (fun _ _ _ _ => trivial) (fun i x H5 H4 hi hPi hY => ?_) fun H4 hPi => ?_
      · obtain ⟨x4, hLD, es, hes, hE4, hRe⟩ := hPi
        obtain ⟨rfl, rfl⟩ := hY
        have hi' : i < n2 := hi
        refine ⟨rfl, _, rfl, _, rfl, p, c, k, rfl, x4.pool, by omega, fun l H6 hl hll x6 => ?_⟩
        refine ⟨_, x6.keep _ _ hE4 nEp nEc, by rw [strL_len]; exact smallL (by omega), (x4.trans x6).mut hE0 nEp nEc, by rw [upd_ne nDE]; exact x6.keep _ _ hLD nDp nDc, es ++ [l], by simp [hes], by rw [upd_same, strL_snoc], fun l' hl' => ?_⟩
        rcases List.mem_append.mp hl' with hl' | hl'
        · exact hRe l' hl'
        · rw [List.mem_singleton] at hl'; subst hl'; exact ⟨hl, hll⟩
      · obtain ⟨x4, hLD, es, hes, hE4, hRe⟩ := hPi
        have hes' : es.length = n2 := hes
        refine ⟨_, rfl, _, rfl, D, rfl, ⟨_, SqL.of hLD⟩, fun F hF => ?_⟩
        have hF0 := x4.none hF
        obtain ⟨nFp, nFc⟩ := x4.pool.fresh hF
        refine lc_it walk_list (fun i H' => Px p c H4 H' ∧ ∃ rs : List Addr, rs.length = i ∧ H' F = some (.lst (rs.map V.ref)) ∧ ∀ r ∈ rs, r ≠ F ∧ RowL p c H' (k + k) n2 r) ⟨(Px.refl x4.pool).new hF, [], rfl, upd_same, fun _ z => by cases z⟩ (fun _ _ _ h => SqL.of (h.1.keep _ _ hLD nDp nDc)) (fun i x H6 H5 hi hPi hY => ?_) fun H5 hPi => ?_
        · obtain ⟨x5, rs, hrs, hF5, hR5⟩ := hPi
          obtain ⟨rfl, hx⟩ := hY
          obtain ⟨l1, hl1, rfl, hm1⟩ := strL_at hx
          have hE5 := x5.keep _ _ hE4 nEp nEc
          refine ⟨rfl, _, rfl, E, rfl, ⟨_, SqL.of hE5⟩, fun G hG => ?_⟩
          obtain ⟨nGp, nGc⟩ := x5.pool.fresh hG
          have nGF : G ≠ F := Ne.symm (ne_of_none hF5 hG)
          refine lc_it walk_list (fun j H' => Px p c H5 H' ∧ ∃ row, GoodR (k + k) j row ∧ H' G = some (.lst (row.map optV))) ⟨(Px.refl x5.pool).new hG, [], GoodR.nil _, upd_same⟩ (fun _ _ _ h => SqL.of (h.1.keep _ _ hE5 nEp nEc)) (fun j x H8 H7 hj hPj hY => ?_) fun H7 hPj => ?_
          · obtain ⟨x7, row, hg, hG7⟩ := hPj
            obtain ⟨rfl, hx⟩ := hY
            obtain ⟨l2, hl2, rfl, hm2⟩ := strL_at hx
            obtain ⟨g1, g2⟩ := hR l1 hm1
            obtain ⟨g3, g4⟩ := hRe l2 hm2
            have hjj : j < (strL es).length := hj
            rw [strL_len] at hjj
            have hgl := hg.len
            refine ⟨rfl, _, rfl, _, rfl, S l1, S l2, rfl, rfl, by rw [S_len, S_len]; exact small (by omega), _, hG7, by rw [List.length_map]; exact smallL (by omega), x7.mut hG nGp nGc, row ++ [some (S (l1 ++ l2))], hg.snoc (fun z hz => ?_), by rw [upd_same, optV_snoc, S_cat]; rfl⟩
            cases hz
            exact ⟨by rw [S_len, List.length_append]; omega, g1.cat g3⟩
          · obtain ⟨x7, row, hg, hG7⟩ := hPj
            rw [strL_len, hes'] at hg
            have hF7 := x7.keep _ _ hF5 nFp nFc
            have hil : i < (strL ls).length := hi
            rw [strL_len] at hil
            refine ⟨_, hF7, by rw [List.length_map]; exact smallL (by omega), (x5.trans x7).mut hF nFp nFc, rs ++ [G], by simp [hrs], by rw [upd_same, List.map_append]; rfl, fun r hr => ?_⟩
            rcases List.mem_append.mp hr with hr | hr
            · exact ⟨(hR5 r hr).1, ((hR5 r hr).2.px x7).mut (hR5 r hr).1⟩
            · rw [List.mem_singleton] at hr; subst hr
              exact ⟨nGF, RowL.mut ⟨nGp, nGc, row, hG7, hg⟩ nGF⟩
        · obtain ⟨x5, rs, hrs, hF5, hR5⟩ := hPi
          have hrs' : rs.length = n1 := by rw [hrs, strL_len]; exact hls'
          refine ⟨p, c, F, k + k, rfl, x5.pool, ⟨nFp, nFc, rs, n2, hF5, fun r hr => (hR5 r hr).2, by omega, by omega, by omega, by omega⟩, fun t H9 tab x9 => ?_⟩
          exact q t H9 tab (x4.trans (x5.trans x9))
end K15
end
section
set_option maxRecDepth 100000
set_option maxHeartbeats 4000000
namespace K15
open PySem PySem.Spec PyProof.Rows L2
variable {P : Program} {w : World} {K : PySem.W.Frag} {mg : Str → Option Value} {base : Heap} {C : Addr}
def RowS (p c : Addr) (H : Hp) (wd : Nat) (r : Addr) : Prop := r ≠ p ∧ r ≠ c ∧ ∃ ls : List (List Nat), H r = some (.lst (strL ls)) ∧ ls.length = wd ∧ ∀ l ∈ ls, AllSg l ∧ l.length ≤ 8
theorem RowS.px {p c r : Addr} {H H' : Hp} {wd : Nat} (h : RowS p c H wd r) (x : Px p c H H') : RowS p c H' wd r := let ⟨h1, h2, ls, e, g⟩ := h; ⟨h1, h2, ls, x.keep _ _ e h1 h2, g⟩
theorem RowS.mut {p c r D : Addr} {H : Hp} {wd : Nat} {o : HO} (h : RowS p c H wd r) (ne : r ≠ D) : RowS p c (upd H D o) wd r := let ⟨h1, h2, ls, e, g⟩ := h; ⟨h1, h2, ls, by rw [upd_ne ne]; exact e, g⟩
theorem sg_low {l : List Nat} (h : AllSg l) (e : l = l.map lo1) : AllAb l := by
  intro x hx
  have hs := h x hx
  rw [e] at hx
  obtain ⟨y, hy, rfl⟩ := List.mem_map.mp hx
  rcases h y hy with rfl | rfl | rfl | rfl
  · exact .inl rfl
  · exact .inr rfl
  · exact .inl rfl
  · exact .inr rfl
def sp_law_owing : Sp := fun vs H Q _ => ∃ (p c : Addr) (m : Nat), vs = [.ref p, .int (m : Int)] ∧ Pool H p c ∧ 1 ≤ m ∧ m ≤ 12 ∧ ∀ t H', TabG H' t 8 → Px p c H H' → Q (.ref t) H'
theorem cal_law_owing (T : Txt K mg C) : Cal P w K mg base 3 "_law_owing" sp_law_owing := by
  have c_law_signed := cal_law_signed (P := P) (w := w) (base := base) T
  have c_law_size := cal_law_size (P := P) (w := w) (base := base) T
  have c_law_holes := cal_law_holes (P := P) (w := w) (base := base) T
  have c_law_struck := cal_law_struck (P := P) (w := w) (base := base) T
  refine cal_of T.d_law_owing sc_law_owing (fun vs H Q E h => ?_) fun f cdv A outer s H vs Q E hr h => ?_
  · obtain ⟨p, c, m, rfl, _⟩ := h
    rfl
  · obtain ⟨p, c, m, rfl, hP, h1, h2, q⟩ := h
    have nd := sc_law_owing.nd
    refine ⟨_, (pss_cons (ps_setLc (i := 2) (own := [("_law_k", 5)]) rfl nd rfl rfl (sw_true rfl rfl rfl (by decide +kernel)) (pi_range1 (by rfl) T.b_range (pa_cons (pe_c c_law_size hr (by decide) (by rfl) (pa_cons (pv 0) (pa_cons (pv 1) pa_nil))) pa_nil)) (blkOk_by (own := [("_law_k", 5)]) (N := N_law_owing) (sc := defScope s_law_owing) (by decide +kernel)) (fun _ _ _ _ _ => (pg_name (i := 5) nd rfl (Or.inl rfl))) (fun _ _ _ _ _ => pts_nil) (fun _ _ _ _ _ => (pe_c c_law_signed hr (by decide) (by rfl) (pa_cons (pv 0) pa_nil))))
(pss_cons (ps_set (i := 3) nd rfl (Or.inr rfl) (pe_lc (own := [("_law_k", 5)]) rfl nd (pi_range1 (by rfl) T.b_range (pa_cons (pe_c c_law_size hr (by decide) (by rfl) (pa_cons (pv 0) (pa_cons (pv 1) pa_nil))) pa_nil)) (blkOk_by (own := [("_law_k", 5)]) (N := N_law_owing) (sc := defScope s_law_owing) (by decide +kernel)) (fun _ _ _ _ _ => (pg_name (i := 5) nd rfl (Or.inl rfl))) (fun _ _ _ _ _ => pts_nil) (fun _ _ _ _ _ => (pe_c c_law_signed hr (by decide) (by rfl) (pa_cons (pv 0) pa_nil)))))
(pss_cons (ps_setLc (i := 4) (own := [("_law_stem", 6)]) rfl nd rfl rfl (sw_true rfl rfl rfl (by decide +kernel)) (pi_list (pv 2)) (blkOk_by (own := [("_law_stem", 6)]) (N := N_law_owing) (sc := defScope s_law_owing) (by decide +kernel)) (fun _ _ _ _ _ => (pg_name (i := 6) nd rfl (Or.inr rfl))) (fun _ _ _ _ _ => pts_nil) (fun _ _ _ _ _ => (pe_lc (own := [("_law_ending", 7)]) rfl nd (pi_listB (K := K) (by rfl) (pv 3)) (blkOk_in (own := [("_law_ending", 7)]) (N := N_law_owing) (sc := defScope s_law_owing) (by decide +kernel)) (fun _ _ _ _ _ => (pg_name (i := 7) nd rfl (Or.inl rfl))) (fun _ _ _ _ _ => pts_nil) (fun _ _ _ _ _ => (pe_c c_law_struck hr (by decide) (by rfl) (pa_cons (pe_op op_add_str (pv 6) (pv 7)) pa_nil))))))
(pss_one (ps_ret (pe_c c_law_holes hr (by decide) (by rfl) (pa_cons (pv 0) (pa_cons (pe_lc (own := [("_law_row", 8)]) rfl nd (pi_list (pv 4)) (blkOk_by (own := [("_law_row", 8)]) (N := N_law_owing) (sc := defScope s_law_owing) (by decide +kernel)) (fun _ _ _ _ _ => (pg_name (i := 8) nd rfl (Or.inl rfl))) (fun _ _ _ _ _ => pts_nil) (fun _ _ _ _ _ => (pe_lc (own := [("_law_form_here", 9)]) rfl nd (pi_listB (K := K) (by rfl) (pv 8)) (blkOk_in (own := [("_law_form_here", 9)]) (N := N_law_owing) (sc := defScope s_law_owing) (by decide +kernel)) (fun _ _ _ _ _ => (pg_name (i := 9) nd rfl (Or.inl rfl))) (fun _ _ _ _ _ => pts_nil) (fun _ _ _ _ _ => (pe_ifExp (pt_cmpR op_ne (pv 9) (pe_lower (pv 9)) (nomark _)) pe_non (pv 9)))))) pa_nil)))))))), ?_⟩
    refine ⟨_, rfl, _, rfl, p, c, m, rfl, hP, h1, h2, fun n1 H1 a1 b1 x1 => ?_⟩
    refine ⟨_, rfl, by omega, by omega, fun D hD => ?_⟩
    have hD0 := x1.none hD
    obtain ⟨nDp, nDc⟩ := x1.pool.fresh hD
    refine lc_it (walk_range (lo := 0)) (fun i H' => Px p c H H' ∧ ∃ ls : List (List Nat), ls.length = i ∧ H' D = some (.lst (strL ls)) ∧ ∀ l ∈ ls, AllSg l ∧ l.length ≤ 4) ⟨x1.new hD, [], rfl, upd_same, fun _ z => by cases z⟩ (fun _ _ _ _ => trivial) (fun i x H3 H2 hi hPi hY => ?_) fun H2 hPi => ?_
    · obtain ⟨x2, ls, hls, hL, hR⟩ := hPi
      obtain ⟨rfl, rfl⟩ := hY
      have hi' : i < n1 := hi
      refine ⟨rfl, _, rfl, p, c, rfl, x2.pool, fun l H4 hl hll x4 => ?_⟩
      refine ⟨_, x4.keep _ _ hL nDp nDc, by rw [strL_len]; exact smallL (by omega), (x2.trans x4).mut hD0 nDp nDc, ls ++ [l], by simp [hls], by rw [upd_same, strL_snoc], fun l' hl' => ?_⟩
      rcases List.mem_append.mp hl' with hl' | hl'
      · exact hR l' hl'
      · rw [List.mem_singleton] at hl'; subst hl'; exact ⟨hl, hll⟩
    · obtain ⟨x2, ls, hls, hL, hR⟩ := hPi
      have hls' : ls.length = n1 := hls
      refine ⟨_, rfl, _, rfl, p, c, m, rfl, x2.pool, h1, h2, fun n2 H3 a2 b2 x3 => ?_⟩
      have X3 := x2.trans x3
      have hL3 := x3.keep _ _ hL nDp nDc
      refine ⟨_, rfl, by omega, by omega, fun E hE => ?_⟩
      have hE0 := X3.none hE
      obtain ⟨nEp, nEc⟩ := x3.pool.fresh hE
      have nDE : D ≠ E := ne_of_none hL3 hE
      refine lc_it (walk_range (lo := 0)) (fun i H' => Px p c H H' ∧ H' D = some (.lst (strL ls)) ∧ ∃ es : List (List Nat), es.length = i ∧ H' E = some (.lst (strL es)) ∧ ∀ l ∈ es, AllSg l ∧ l.length ≤ 4) ⟨X3.new hE, by rw [upd_ne nDE]; exact hL3, [], rfl, upd_same, fun _ z => by cases z⟩ (fun _ _ _ _ => trivial) (fun i x H5 H4 hi hPi hY => ?_) fun H4 hPi => ?_
      · obtain ⟨x4, hLD, es, hes, hE4, hRe⟩ := hPi
        obtain ⟨rfl, rfl⟩ := hY
        have hi' : i < n2 := hi
        refine ⟨rfl, _, rfl, p, c, rfl, x4.pool, fun l H6 hl hll x6 => ?_⟩
        refine ⟨_, x6.keep _ _ hE4 nEp nEc, by rw [strL_len]; exact smallL (by omega), (x4.trans x6).mut hE0 nEp nEc, by rw [upd_ne nDE]; exact x6.keep _ _ hLD nDp nDc, es ++ [l], by simp [hes], by rw [upd_same, strL_snoc], fun l' hl' => ?_⟩
        rcases List.mem_append.mp hl' with hl' | hl'
        · exact hRe l' hl'
        · rw [List.mem_singleton] at hl'; subst hl'; exact ⟨hl, hll⟩
      · obtain ⟨x4, hLD, es, hes, hE4, hRe⟩ := hPi
        have hes' : es.length = n2 := hes
        refine ⟨_, rfl, D, rfl, ⟨_, SqL.of hLD⟩, fun F hF => ?_⟩
        obtain ⟨nFp, nFc⟩ := x4.pool.fresh hF
        refine lc_it walk_list (fun i H' => Px p c H4 H' ∧ ∃ rs : List Addr, rs.length = i ∧ H' F = some (.lst (rs.map V.ref)) ∧ ∀ r ∈ rs, r ≠ F ∧ RowS p c H' n2 r) ⟨(Px.refl x4.pool).new hF, [], rfl, upd_same, fun _ z => by cases z⟩ (fun _ _ _ h => SqL.of (h.1.keep _ _ hLD nDp nDc)) (fun i x H6 H5 hi hPi hY => ?_) fun H5 hPi => ?_
        · obtain ⟨x5, rs, hrs, hF5, hR5⟩ := hPi
          obtain ⟨rfl, hx⟩ := hY
          obtain ⟨l1, hl1, rfl, hm1⟩ := strL_at hx
          have hE5 := x5.keep _ _ hE4 nEp nEc
          refine ⟨rfl, _, rfl, E, rfl, ⟨_, SqL.of hE5⟩, fun G hG => ?_⟩
          obtain ⟨nGp, nGc⟩ := x5.pool.fresh hG
          have nGF : G ≠ F := Ne.symm (ne_of_none hF5 hG)
          refine lc_it walk_list (fun j H' => Px p c H5 H' ∧ ∃ ws : List (List Nat), ws.length = j ∧ H' G = some (.lst (strL ws)) ∧ ∀ l ∈ ws, AllSg l ∧ l.length ≤ 8) ⟨(Px.refl x5.pool).new hG, [], rfl, upd_same, fun _ z => by cases z⟩ (fun _ _ _ h => SqL.of (h.1.keep _ _ hE5 nEp nEc)) (fun j x H8 H7 hj hPj hY => ?_) fun H7 hPj => ?_
          · obtain ⟨x7, ws, hws, hG7, hW⟩ := hPj
            obtain ⟨rfl, hx⟩ := hY
            obtain ⟨l2, hl2, rfl, hm2⟩ := strL_at hx
            obtain ⟨g1, g2⟩ := hR l1 hm1
            obtain ⟨g3, g4⟩ := hRe l2 hm2
            have hjj : j < (strL es).length := hj
            rw [strL_len] at hjj
            have hcl : (l1 ++ l2).length ≤ 8 := by rw [List.length_append]; omega
            refine ⟨rfl, _, rfl, _, rfl, S l1, S l2, rfl, rfl, by rw [S_len, S_len]; exact small (by omega), l1 ++ l2, by rw [S_cat]; rfl, g1.cat g3, by omega, fun H9 s9 => ?_⟩
            have hst := strk_len (g1.cat g3)
            refine ⟨_, s9 _ _ hG7, by rw [strL_len]; exact smallL (by omega), (x7.same s9).mut hG nGp nGc, ws ++ [strk (l1 ++ l2)], by simp [hws], by rw [upd_same, strL_snoc], fun l' hl' => ?_⟩
            rcases List.mem_append.mp hl' with hl' | hl'
            · exact hW l' hl'
            · rw [List.mem_singleton] at hl'; subst hl'; exact ⟨strk_sg (g1.cat g3), by omega⟩
          · obtain ⟨x7, ws, hws, hG7, hW⟩ := hPj
            rw [strL_len, hes'] at hws
            have hF7 := x7.keep _ _ hF5 nFp nFc
            have hil : i < (strL ls).length := hi
            rw [strL_len] at hil
            refine ⟨_, hF7, by rw [List.length_map]; exact smallL (by omega), (x5.trans x7).mut hF nFp nFc, rs ++ [G], by simp [hrs], by rw [upd_same, List.map_append]; rfl, fun r hr => ?_⟩
            rcases List.mem_append.mp hr with hr | hr
            · exact ⟨(hR5 r hr).1, ((hR5 r hr).2.px x7).mut (hR5 r hr).1⟩
            · rw [List.mem_singleton] at hr; subst hr
              exact ⟨nGF, RowS.mut ⟨nGp, nGc, ws, hG7, hws, hW⟩ nGF⟩
        · obtain ⟨x5, rs, hrs, hF5, hR5⟩ := hPi
          have hrs' : rs.length = n1 := by rw [hrs, strL_len]; exact hls'
          have X5 := x4.trans x5
          refine ⟨_, rfl, _, rfl, F, rfl, ⟨_, SqL.of hF5⟩, fun I hI => ?_⟩
          obtain ⟨nIp, nIc⟩ := x5.pool.fresh hI
          refine lc_it walk_list (fun i H' => Px p c H5 H' ∧ ∃ us : List Addr, us.length = i ∧ H' I = some (.lst (us.map V.ref)) ∧ ∀ r ∈ us, r ≠ I ∧ RowL p c H' 8 n2 r) ⟨(Px.refl x5.pool).new hI, [], rfl, upd_same, fun _ z => by cases z⟩ (fun _ _ _ h => SqL.of (h.1.keep _ _ hF5 nFp nFc)) (fun i x H7 H6 hi hPi hY => ?_) fun H6 hPi => ?_
          · obtain ⟨x6, us, hus, hI6, hR6⟩ := hPi
            obtain ⟨rfl, hx⟩ := hY
            rw [List.getElem?_map, Option.map_eq_some_iff] at hx
            obtain ⟨r, hri, rfl⟩ := hx
            obtain ⟨nrp, nrc, ws, hrw, hwl, hW⟩ := (hR5 r (List.mem_of_getElem? hri)).2
            have hrw6 := x6.keep _ _ hrw nrp nrc
            refine ⟨rfl, _, rfl, r, rfl, ⟨_, SqL.of hrw6⟩, fun G hG => ?_⟩
            obtain ⟨nGp, nGc⟩ := x6.pool.fresh hG
            have nGI : G ≠ I := Ne.symm (ne_of_none hI6 hG)
            refine lc_it walk_list (fun j H' => Px p c H6 H' ∧ ∃ row, GoodR 8 j row ∧ H' G = some (.lst (row.map optV))) ⟨(Px.refl x6.pool).new hG, [], GoodR.nil _, upd_same⟩ (fun _ _ _ h => SqL.of (h.1.keep _ _ hrw6 nrp nrc)) (fun j x H9 H8 hj hPj hY => ?_) fun H8 hPj => ?_
            · obtain ⟨x8, row, hg, hG8⟩ := hPj
              obtain ⟨rfl, hx⟩ := hY
              obtain ⟨l, hl, rfl, hm⟩ := strL_at hx
              obtain ⟨g1, g2⟩ := hW l hm
              have hjj : j < (strL ws).length := hj
              rw [strL_len] at hjj
              have hgl := hg.len
              have hsz : (row.map optV).length < sizeLine := by rw [List.length_map]; exact smallL (by omega)
              refine ⟨rfl, ?_⟩
              refine ⟨_, rfl, _, rfl, ⟨_, rfl⟩, _, rfl, rfl, by rw [S_len]; omega, rfl, _, rfl, ?_⟩
              rw [lower_S g1]
              by_cases he : l = l.map lo1
              · rw [show (!decide (V.str (S l) = V.str (S (l.map lo1)))) = false by rw [decide_eq_true (congrArg (fun z => V.str (S z)) he)]; rfl]
                refine iteF ⟨_, rfl, _, hG8, hsz, x8.mut hG nGp nGc, row ++ [some (S l)], hg.snoc (fun z hz => ?_), by rw [upd_same, optV_snoc]; rfl⟩
                cases hz
                exact ⟨by rw [S_len]; exact g2, sg_low g1 he⟩
              · rw [show (!decide (V.str (S l) = V.str (S (l.map lo1)))) = true by rw [decide_eq_false (fun z => he (str_eq.mp z))]; rfl]
                exact iteT ⟨_, hG8, hsz, x8.mut hG nGp nGc, row ++ [none], hg.snoc (fun z hz => by cases hz), by rw [upd_same, optV_snoc]; rfl⟩
            · obtain ⟨x8, row, hg, hG8⟩ := hPj
              rw [strL_len, hwl] at hg
              have hI8 := x8.keep _ _ hI6 nIp nIc
              have hil : i < (rs.map V.ref).length := hi
              rw [List.length_map] at hil
              refine ⟨_, hI8, by rw [List.length_map]; exact smallL (by omega), (x6.trans x8).mut hI nIp nIc, us ++ [G], by simp [hus], by rw [upd_same, List.map_append]; rfl, fun r hr => ?_⟩
              rcases List.mem_append.mp hr with hr | hr
              · exact ⟨(hR6 r hr).1, ((hR6 r hr).2.px x8).mut (hR6 r hr).1⟩
              · rw [List.mem_singleton] at hr; subst hr
                exact ⟨nGI, RowL.mut ⟨nGp, nGc, row, hG8, hg⟩ nGI⟩
          · obtain ⟨x6, us, hus, hI6, hR6⟩ := hPi
            have hus' : us.length = n1 := by rw [hus, List.length_map]; exact hrs'
            refine ⟨p, c, I, 8, rfl, x6.pool, ⟨nIp, nIc, us, n2, hI6, fun r hr => (hR6 r hr).2, by omega, by omega, by omega, by omega⟩, fun t H9 tab x9 => ?_⟩
            exact q t H9 tab (X5.trans (x6.trans x9))
end K15
end
section
set_option maxRecDepth 100000
set_option maxHeartbeats 4000000
namespace K15
open PySem PySem.Spec PyProof.Rows L2
variable {P : Program} {w : World} {K : PySem.W.Frag} {mg : Str → Option Value} {base : Heap} {C : Addr}
theorem GoodR.mono {n n' wd : Nat} {row : List (Option Str)} (h : GoodR n wd row) (hn : n ≤ n') : GoodR n' wd row := ⟨h.len, fun z hz => ⟨Nat.le_trans (h.forms z hz).1 hn, (h.forms z hz).2⟩⟩
theorem RowL.mono {p c r : Addr} {H : Hp} {n n' wd : Nat} (h : RowL p c H n wd r) (hn : n ≤ n') : RowL p c H n' wd r := let ⟨h1, h2, row, e, g⟩ := h; ⟨h1, h2, row, e, g.mono hn⟩
theorem TabG.mono {a : Addr} {H : Hp} {n n' : Nat} (h : TabG H a n) (hn : n ≤ n') : TabG H a n' := let ⟨rs, wd, e, r, d⟩ := h; ⟨rs, wd, e, fun x hx => (let ⟨row, e, g⟩ := r x hx; ⟨row, e, g.mono hn⟩ : RowT H n' wd x), d⟩
theorem GoodR.set {n i wd : Nat} {row : List (Option Str)} (h : GoodR n wd row) {o : Option Str} (ho : ∀ z, o = some z → z.length ≤ n ∧ ∀ c ∈ z.cps.toList, c = 97 ∨ c = 98) : GoodR n wd (row.set i o) := by
  refine ⟨by rw [List.length_set]; exact h.len, fun z hz => ?_⟩
  rcases List.mem_or_eq_of_mem_set hz with hz | hz
  · exact h.forms z hz
  · exact ho z hz.symm
theorem ixN_lt {n : Nat} {i : Int} (h0 : 0 ≤ i) (h1 : i < n) : ixN n i = some i.toNat := by
  unfold ixN
  rw [if_pos h0, if_pos h1]
def sp_law_boxes : Sp := fun vs H Q _ => ∃ (p c : Addr) (m : Nat), vs = [.ref p, .int (m : Int)] ∧ Pool H p c ∧ 1 ≤ m ∧ m ≤ 12 ∧ ∀ t H', TabG H' t 30 → Px p c H H' → Q (.ref t) H'
theorem cal_law_boxes (T : Txt K mg C) : Cal P w K mg base 4 "_law_boxes" sp_law_boxes := by
  have c_law_draw := cal_law_draw (P := P) (w := w) (base := base) T
  have c_law_form := cal_law_form (P := P) (w := w) (base := base) T
  have c_law_size := cal_law_size (P := P) (w := w) (base := base) T
  have c_law_holes := cal_law_holes (P := P) (w := w) (base := base) T
  have c_law_made := cal_law_made (P := P) (w := w) (base := base) T
  have c_law_owing := cal_law_owing (P := P) (w := w) (base := base) T
  refine cal_of T.d_law_boxes sc_law_boxes (fun vs H Q E h => ?_) fun f cdv A outer s H vs Q E hr h => ?_
  · obtain ⟨p, c, m, rfl, _⟩ := h
    rfl
  · obtain ⟨p, c, m, rfl, hP, h1, h2, q⟩ := h
    have nd := sc_law_boxes.nd
    refine ⟨_, (pss_cons (ps_set (i := 2) nd rfl (Or.inl rfl) (pe_c c_law_draw hr (by decide) (by rfl) (pa_cons (pv 0) (pa_cons pe_int pa_nil))))
(pss_cons (ps_if (pt_cmpR op_lt (pv 2) pe_int (nomark _))
(pss_one (ps_ret (pe_c c_law_made hr (by decide) (by rfl) (pa_cons (pv 0) (pa_cons (pv 1) (pa_cons (pe_ix ix_list (pe_lst (pa_cons pe_int (pa_cons pe_int pa_nil))) (pe_c c_law_draw hr (by decide) (by rfl) (pa_cons (pv 0) (pa_cons pe_int pa_nil))) (fun _ _ => rfl)) pa_nil))))))
pss_nil)
(pss_cons (ps_if (pt_cmpR op_lt (pv 2) pe_int (nomark _))
(pss_cons (ps_setLc (i := 3) (own := [("_law_row", 4)]) rfl nd rfl rfl (sw_true rfl rfl rfl (by decide +kernel)) (pi_tup (pe_c c_law_made hr (by decide) (by rfl) (pa_cons (pv 0) (pa_cons (pv 1) (pa_cons pe_int pa_nil))))) (blkOk_by (own := [("_law_row", 4)]) (N := N_law_boxes) (sc := defScope s_law_boxes) (by decide +kernel)) (fun _ _ _ _ _ => (pg_name (i := 4) nd rfl (Or.inl rfl))) (fun _ _ _ _ _ => pts_nil) (fun _ _ _ _ _ => (pe_callTy (call_list_ofB (K := K) (by rfl)) (by rfl) T.b_list (by decide +kernel) (pa_cons (pv 4) pa_nil))))
(pss_cons (ps_set (i := 4) nd rfl (Or.inl rfl) (pe_ix ix_list (pv 3) (pe_c c_law_draw hr (by decide) (by rfl) (pa_cons (pv 0) (pa_cons (pe_callB call_len_seq (by rfl) T.b_len PySem.boot_len (pa_cons (pv 3) pa_nil)) pa_nil))) (fun _ _ => rfl)))
(pss_cons (ps_set (i := 5) nd rfl (Or.inl rfl) (pe_c c_law_draw hr (by decide) (by rfl) (pa_cons (pv 0) (pa_cons (pe_callB call_len_seq (by rfl) T.b_len PySem.boot_len (pa_cons (pv 4) pa_nil)) pa_nil))))
(pss_cons (ps_asg (pe_ix ix_list (pe_lst (pa_cons (pe_c c_law_form hr (by decide) (by rfl) (pa_cons (pv 0) (pa_cons pe_int pa_nil))) (pa_cons (pe_op op_add_str (pe_orT (pe_ix ix_list (pv 4) (pv 5) (fun _ _ => rfl)) (pe_one pe_str)) pe_str) pa_nil))) (pe_c c_law_draw hr (by decide) (by rfl) (pa_cons (pv 0) (pa_cons pe_int pa_nil))) (fun _ _ => rfl)) (pg_sub (pv 4) (pv 5) set_list))
(pss_one (ps_ret (pe_callTy call_tuple_of (by rfl) T.b_tuple (by decide +kernel) (pa_cons (pe_lc (own := [("_law_row", 4)]) rfl nd (pi_list (pv 3)) (blkOk_by (own := [("_law_row", 4)]) (N := N_law_boxes) (sc := defScope s_law_boxes) (by decide +kernel)) (fun _ _ _ _ _ => (pg_name (i := 4) nd rfl (Or.inl rfl))) (fun _ _ _ _ _ => pts_nil) (fun _ _ _ _ _ => (pe_callTy (call_tuple_ofB (K := K) (by rfl)) (by rfl) T.b_tuple (by decide +kernel) (pa_cons (pv 4) pa_nil)))) pa_nil))))))))
pss_nil)
(pss_cons (ps_if (pt_cmpR op_lt (pv 2) pe_int (nomark _))
(pss_one (ps_ret (pe_c c_law_owing hr (by decide) (by rfl) (pa_cons (pv 0) (pa_cons (pv 1) pa_nil)))))
pss_nil)
(pss_cons (ps_asg (pe_tup (pa_cons (pe_c c_law_size hr (by decide) (by rfl) (pa_cons (pv 0) (pa_cons (pv 1) pa_nil))) (pa_cons (pe_c c_law_size hr (by decide) (by rfl) (pa_cons (pv 0) (pa_cons (pv 1) pa_nil))) pa_nil))) (pg_tup rfl (pgs_cons (pg_name (i := 6) nd rfl (Or.inl rfl)) (pgs_cons (pg_name (i := 7) nd rfl (Or.inr rfl)) pgs_nil))))
(pss_one (ps_ret (pe_c c_law_holes hr (by decide) (by rfl) (pa_cons (pv 0) (pa_cons (pe_lc (own := [("_law_row", 4)]) rfl nd (pi_range1 (by rfl) T.b_range (pa_cons (pv 6) pa_nil)) (blkOk_by (own := [("_law_row", 4)]) (N := N_law_boxes) (sc := defScope s_law_boxes) (by decide +kernel)) (fun _ _ _ _ _ => (pg_name (i := 4) nd rfl (Or.inl rfl))) (fun _ _ _ _ _ => pts_nil) (fun _ _ _ _ _ => (pe_lc (own := [("_law_column", 8)]) rfl nd (pi_range1 (by rfl) T.b_range (pa_cons (pv 7) pa_nil)) (blkOk_in (own := [("_law_column", 8)]) (N := N_law_boxes) (sc := defScope s_law_boxes) (by decide +kernel)) (fun _ _ _ _ _ => (pg_name (i := 8) nd rfl (Or.inl rfl))) (fun _ _ _ _ _ => pts_nil) (fun _ _ _ _ _ => (pe_c c_law_form hr (by decide) (by rfl) (pa_cons (pv 0) (pa_cons pe_int pa_nil))))))) pa_nil)))))))))), ?_⟩
    refine ⟨_, rfl, p, c, 8, rfl, hP, by decide, by decide, fun kd H1 d0 d1 x1 => ?_⟩
    refine ⟨_, rfl, _, 3, rfl, rfl, _, rfl, ite2 (fun _ => ?_) fun _ => ?_⟩
    · -- made
      refine ⟨_, rfl, _, rfl, small (by show 2 ≤ 100000; decide), fun o no => ?_⟩
      have x2 : Px p c H1 (upd H1 o (.lst [.int 2, .int 4])) := (Px.refl x1.pool).new no
      obtain ⟨nop, noc⟩ := x1.pool.fresh no
      refine ⟨_, rfl, p, c, 2, rfl, x2.pool, by decide, by decide, fun e H3 e0 e1 x3 => ?_⟩
      obtain ⟨v, hv, hv2⟩ := atI_in (xs := [V.int 2, .int 4]) e0 e1
      obtain ⟨k, rfl, hk⟩ : ∃ k : Nat, v = .int (k : Int) ∧ k ≤ 15 := by
        have := List.mem_of_getElem? hv2
        simp only [List.mem_cons, List.not_mem_nil, or_false] at this
        rcases this with rfl | rfl
        · exact ⟨2, rfl, by decide⟩
        · exact ⟨4, rfl, by decide⟩
      refine ⟨o, _, e, _, rfl, rfl, SqL.of (x3.keep _ _ upd_same nop noc), hv, ?_⟩
      refine ⟨p, c, m, k, rfl, x3.pool, h1, h2, hk, fun t H4 tab x4 => ?_⟩
      exact q t H4 (tab.mono (by omega)) (x1.trans (x2.trans (x3.trans x4)))
    refine ⟨_, rfl, _, 5, rfl, rfl, _, rfl, ite2 (fun _ => ?_) fun _ => ?_⟩
    · -- one box changed
      refine ⟨_, rfl, _, rfl, p, c, m, 3, rfl, x1.pool, h1, h2, by decide, fun t0 H2 tab x2 => ?_⟩
      obtain ⟨rs, wd, ht0, hrs, dm1, dm2, dm3, dm4⟩ := tab
      have X2 := x1.trans x2
      refine ⟨t0, rfl, ⟨_, SqT.of ht0⟩, fun D hD => ?_⟩
      obtain ⟨nDp, nDc⟩ := x2.pool.fresh hD
      refine lc_it walk_tup (fun i H' => Px p c H2 H' ∧ ∃ us : List Addr, us.length = i ∧ H' D = some (.lst (us.map V.ref)) ∧ ∀ r ∈ us, r ≠ D ∧ RowL p c H' 6 wd r ∧ H2 r = none) ⟨(Px.refl x2.pool).new hD, [], rfl, upd_same, fun _ z => by cases z⟩ (fun _ _ _ h => SqT.of (h.1.tup x2.pool ht0)) (fun i x H4 H3 hi hPi hY => ?_) fun H3 hPi => ?_
      · obtain ⟨x3, us, hus, hD3, hU⟩ := hPi
        obtain ⟨rfl, hx⟩ := hY
        rw [List.getElem?_map, Option.map_eq_some_iff] at hx
        obtain ⟨r, hri, rfl⟩ := hx
        obtain ⟨row, hrow, hg⟩ := (hrs r (List.mem_of_getElem? hri)).px x2.pool x3
        have hil : i < (rs.map V.ref).length := hi
        rw [List.length_map] at hil
        refine ⟨rfl, _, rfl, r, _, rfl, .inr (SqT.of hrow), fun l nl => ?_⟩
        obtain ⟨nlp, nlc⟩ := x3.pool.fresh nl
        have nlD : l ≠ D := Ne.symm (ne_of_none hD3 nl)
        have hD4 := same_upd (o := .lst (row.map optV)) nl _ _ hD3
        refine ⟨_, hD4, by rw [List.length_map]; exact smallL (by omega), (x3.new nl).mut hD nDp nDc, us ++ [l], by simp [hus], by rw [upd_same, List.map_append]; rfl, fun r' hr' => ?_⟩
        rcases List.mem_append.mp hr' with hr' | hr'
        · exact ⟨(hU r' hr').1, ((hU r' hr').2.1.same (same_upd nl)).mut (hU r' hr').1, (hU r' hr').2.2⟩
        · rw [List.mem_singleton] at hr'; subst hr'
          exact ⟨nlD, RowL.mut ⟨nlp, nlc, row, upd_same, hg⟩ nlD, x3.none nl⟩
      · obtain ⟨x3, us, hus, hD3, hU⟩ := hPi
        rw [List.length_map] at hus
        have hul : ((us.map V.ref).length : Int) = (rs.length : Int) := by rw [List.length_map, hus]
        refine ⟨_, rfl, _, rfl, _, rfl, D, _, rfl, .inl (SqL.of hD3), p, c, _, rfl, x3.pool, by omega, by omega, fun d H4 g0 g1 x4 => ?_⟩
        obtain ⟨v, hv, hv2⟩ := atI_in g0 g1
        rw [List.getElem?_map, Option.map_eq_some_iff] at hv2
        obtain ⟨r, hri, rfl⟩ := hv2
        have hD4 := x4.keep _ _ hD3 nDp nDc
        have hrm := List.mem_of_getElem? hri
        refine ⟨D, _, d, _, rfl, rfl, SqL.of hD4, hv, ?_⟩
        obtain ⟨nrp, nrc, row, hrow, hg⟩ := (hU r hrm).2.1.px x4
        have nrD := (hU r hrm).1
        have hwl : ((row.map optV).length : Int) = (wd : Int) := by rw [List.length_map, hg.len]
        refine ⟨_, rfl, _, rfl, r, _, rfl, .inl (SqL.of hrow), p, c, _, rfl, x4.pool, by omega, by omega, fun e H5 j0 j1 x5 => ?_⟩
        have hrow5 := x5.keep _ _ hrow nrp nrc
        refine ⟨_, rfl, p, c, 3, rfl, x5.pool, by decide, fun l H6 hl hll x6 => ?_⟩
        have hrow6 := x6.keep _ _ hrow5 nrp nrc
        obtain ⟨v6, hv6, hv62⟩ := atI_in j0 j1
        obtain ⟨o6, ho6, rfl⟩ := row_boxL hv62
        -- the text that stands there, or none
        have sel : ∃ (k : Bool) (z : Str), TruV K (optV o6) H6 k ∧ z.length ≤ 6 ∧ (∀ c ∈ z.cps.toList, c = 97 ∨ c = 98) ∧ ((k = true ∧ optV o6 = .str z) ∨ (k = false ∧ S [] = z)) := by
          cases o6 with
          | none => exact ⟨false, S [], rfl, Nat.zero_le _, (fun c hc => by cases hc), .inr ⟨rfl, rfl⟩⟩
          | some z =>
            obtain ⟨z1, z2⟩ := hg.forms z (List.mem_of_getElem? ho6)
            by_cases hz0 : z.length = 0
            · refine ⟨false, S [], ⟨small (by omega), ?_⟩, Nat.zero_le _, (fun c hc => by cases hc), .inr ⟨rfl, rfl⟩⟩
              rw [hz0]
              rfl
            · refine ⟨true, z, ⟨small (by omega), ?_⟩, z1, z2, .inl ⟨rfl, rfl⟩⟩
              symm
              rw [bne_iff_ne]
              omega
        obtain ⟨k, z, hk, z1, z2, hsel⟩ := sel
        refine ⟨_, rfl, _, rfl, r, _, e, _, rfl, rfl, SqL.of hrow6, hv6, ?_⟩
        refine ⟨k, hk, ?_⟩
        have after : (z ++ ("a" : Str)).length ≤ 30 ∧ ∀ c ∈ (z ++ ("a" : Str)).cps.toList, c = 97 ∨ c = 98 := by
          have e : z ++ ("a" : Str) = S (z.cps.toList ++ [97]) := by
            rw [← S_cat]
            rfl
          rw [e]
          refine ⟨?_, fun c hc => ?_⟩
          · rw [S_len, List.length_append]
            have : z.cps.toList.length = z.length := rfl
            show z.cps.toList.length + 1 ≤ 30
            omega
          · rcases List.mem_append.mp hc with hc | hc
            · exact z2 c hc
            · rw [List.mem_singleton] at hc; subst hc; exact .inl rfl
        have two : ∀ {g : Int} (v8 : V), [V.str (S l), .str (z ++ ("a" : Str))][g.toNat]? = some v8 → ∃ o : Option Str, v8 = optV o ∧ ∀ y, o = some y → y.length ≤ 30 ∧ ∀ c ∈ y.cps.toList, c = 97 ∨ c = 98 := fun {g} v8 h => by
          have := List.mem_of_getElem? h
          simp only [List.mem_cons, List.not_mem_nil, or_false] at this
          rcases this with rfl | rfl
          · exact ⟨some (S l), rfl, fun y hy => by cases hy; exact ⟨by rw [S_len]; omega, hl⟩⟩
          · exact ⟨some (z ++ ("a" : Str)), rfl, fun y hy => by cases hy; exact after⟩
        -- the row is changed
        have fin : ∀ (H8 : Hp) (o8 : Option Str), Px p c H4 H8 → (∀ y, o8 = some y → y.length ≤ 30 ∧ ∀ c ∈ y.cps.toList, c = 97 ∨ c = 98) → ∃ H9 : Hp, H9 = upd H8 r (.lst ((row.map optV).set e.toNat (optV o8))) ∧ Px p c H2 H9 ∧ H9 D = some (.lst (us.map V.ref)) ∧ ∀ r' ∈ us, RowL p c H9 30 wd r' := fun H8 o8 X8 ho8 => by
          refine ⟨_, rfl, (x3.trans (x4.trans X8)).mut (hU r hrm).2.2 nrp nrc, ?_, fun r' hr' => ?_⟩
          · rw [upd_ne (Ne.symm nrD)]
            exact X8.keep _ _ hD4 nDp nDc
          · by_cases hrr : r' = r
            · subst hrr
              exact ⟨nrp, nrc, _, by rw [upd_same, List.map_set], (hg.mono (by decide)).set ho8⟩
            · exact (((hU r' hr').2.1.px (x4.trans X8)).mono (by decide)).mut hrr
        rcases hsel with ⟨rfl, he⟩ | ⟨rfl, he⟩
        rotate_left
        refine iteF ?_
        rw [show (V.str "" : V) = V.str z from congrArg V.str he]
        rotate_left
        refine iteT ?_
        rw [he]
        all_goals
          refine ⟨z, _, rfl, rfl, small (by show z.length + 1 ≤ 100000; omega), small (by show 2 ≤ 100000; decide), fun o2 no2 => ?_⟩
          have x7 : Px p c H6 (upd H6 o2 (.lst [.str (S l), .str (z ++ ("a" : Str))])) := (Px.refl x6.pool).new no2
          obtain ⟨no2p, no2c⟩ := x6.pool.fresh no2
          refine ⟨_, rfl, p, c, 2, rfl, x7.pool, by decide, by decide, fun g H8 g2 g3 x8 => ?_⟩
          obtain ⟨v8, hv8, hv82⟩ := atI_in (xs := [V.str (S l), .str (z ++ ("a" : Str))]) g2 g3
          obtain ⟨o8, rfl, ho8⟩ := two v8 hv82
          have X8 : Px p c H4 H8 := x5.trans (x6.trans (x7.trans x8))
          refine ⟨o2, _, g, _, rfl, rfl, SqL.of (x8.keep _ _ upd_same no2p no2c), hv8, _, rfl, _, rfl, r, _, e, _, rfl, rfl, X8.keep _ _ hrow nrp nrc, ixN_lt j0 j1, ?_⟩
          obtain ⟨H9, hH9, x9, hD9, hU9⟩ := fin H8 o8 X8 ho8
          rw [← hH9]
          refine ⟨_, rfl, D, rfl, ⟨_, SqL.of hD9⟩, fun I hI => ?_⟩
          have hI2 := x9.none hI
          obtain ⟨nIp, nIc⟩ := x9.pool.fresh hI
          refine lc_it walk_list (fun i H' => Px p c H9 H' ∧ ∃ ts : List Addr, ts.length = i ∧ H' I = some (.lst (ts.map V.ref)) ∧ ∀ t ∈ ts, RowT H' 30 wd t) ⟨(Px.refl x9.pool).new hI, [], rfl, upd_same, fun _ z => by cases z⟩ (fun _ _ _ h => SqL.of (h.1.keep _ _ hD9 nDp nDc)) (fun i x H11 H10 hi hPi hY => ?_) fun H10 hPi => ?_
          · obtain ⟨x10, ts, hts, hI10, hT⟩ := hPi
            obtain ⟨rfl, hx⟩ := hY
            rw [List.getElem?_map, Option.map_eq_some_iff] at hx
            obtain ⟨r', hri', rfl⟩ := hx
            obtain ⟨nrp', nrc', row', hrow', hg'⟩ := (hU9 r' (List.mem_of_getElem? hri')).px x10
            have hil : i < (us.map V.ref).length := hi
            rw [List.length_map] at hil
            refine ⟨rfl, _, rfl, r', _, rfl, .inl ⟨SqL.of hrow', fun t nt => ?_⟩⟩
            have hI11 := same_upd (o := .tup (row'.map optV)) nt _ _ hI10
            refine ⟨_, hI11, by rw [List.length_map]; exact smallL (by omega), (x10.new nt).mut hI nIp nIc, ts ++ [t], by simp [hts], by rw [upd_same, List.map_append]; rfl, fun t' ht' => ?_⟩
            rcases List.mem_append.mp ht' with ht' | ht'
            · exact ((hT t' ht').same (same_upd nt)).mutL hI11
            · rw [List.mem_singleton] at ht'; subst ht'
              exact RowT.mutL ⟨row', upd_same, hg'⟩ hI11
          · obtain ⟨x10, ts, hts, hI10, hT⟩ := hPi
            rw [List.length_map, hus] at hts
            refine ⟨I, _, rfl, .inl ⟨SqL.of hI10, fun t nt => ?_⟩⟩
            exact q t _ ⟨ts, wd, upd_same, fun r hr => (hT r hr).same (same_upd nt), by omega, by omega, dm3, dm4⟩ (X2.trans (x9.trans (x10.new nt)))
    refine ⟨_, rfl, _, 7, rfl, rfl, _, rfl, ite2 (fun _ => ?_) fun _ => ?_⟩
    · exact ⟨_, rfl, _, rfl, p, c, m, rfl, x1.pool, h1, h2, fun t H2 tab x2 => q t H2 (tab.mono (by decide)) (x1.trans x2)⟩
    · refine ⟨_, rfl, _, rfl, p, c, m, rfl, x1.pool, h1, h2, fun n1 H2 a1 b1 x2 => ?_⟩
      refine ⟨_, rfl, _, rfl, p, c, m, rfl, x2.pool, h1, h2, fun n2 H3 a2 b2 x3 => ?_⟩
      refine ⟨small (by show 2 ≤ 100000; decide), fun t nt => ⟨t, _, rfl, SqT.of upd_same, rfl, _, _, rfl, _, _, rfl, rfl, ?_⟩⟩
      have X3 : Px p c H (upd H3 t (.tup [.int (n1 : Int), .int (n2 : Int)])) := (x1.trans (x2.trans x3)).new nt
      refine ⟨_, rfl, _, rfl, _, rfl, by omega, by omega, fun F hF => ?_⟩
      obtain ⟨nFp, nFc⟩ := X3.pool.fresh hF
      refine lc_it (walk_range (lo := 0)) (fun i H' => Px p c (upd H3 t (.tup [.int (n1 : Int), .int (n2 : Int)])) H' ∧ ∃ rs : List Addr, rs.length = i ∧ H' F = some (.lst (rs.map V.ref)) ∧ ∀ r ∈ rs, r ≠ F ∧ RowL p c H' 2 n2 r) ⟨(Px.refl X3.pool).new hF, [], rfl, upd_same, fun _ z => by cases z⟩ (fun _ _ _ _ => trivial) (fun i x H5 H4 hi hPi hY => ?_) fun H4 hPi => ?_
      · obtain ⟨x4, rs, hrs, hF4, hR4⟩ := hPi
        obtain ⟨rfl, rfl⟩ := hY
        have hi' : i < n1 := hi
        refine ⟨rfl, _, rfl, _, rfl, by omega, by omega, fun G hG => ?_⟩
        obtain ⟨nGp, nGc⟩ := x4.pool.fresh hG
        have nGF : G ≠ F := Ne.symm (ne_of_none hF4 hG)
        refine lc_it (walk_range (lo := 0)) (fun j H' => Px p c H4 H' ∧ ∃ row, GoodR 2 j row ∧ H' G = some (.lst (row.map optV))) ⟨(Px.refl x4.pool).new hG, [], GoodR.nil _, upd_same⟩ (fun _ _ _ _ => trivial) (fun j x H7 H6 hj hPj hY => ?_) fun H6 hPj => ?_
        · obtain ⟨x6, row, hg, hG6⟩ := hPj
          obtain ⟨rfl, rfl⟩ := hY
          have hj' : j < n2 := hj
          have hgl := hg.len
          refine ⟨rfl, _, rfl, p, c, 2, rfl, x6.pool, by decide, fun l H8 hl hll x8 => ?_⟩
          refine ⟨_, x8.keep _ _ hG6 nGp nGc, by rw [List.length_map]; exact smallL (by omega), (x6.trans x8).mut hG nGp nGc, row ++ [some (S l)], hg.snoc (fun z hz => ?_), by rw [upd_same, optV_snoc]; rfl⟩
          cases hz
          exact ⟨by rw [S_len]; exact hll, hl⟩
        · obtain ⟨x6, row, hg, hG6⟩ := hPj
          have hg' : GoodR 2 n2 row := hg
          have hF6 := x6.keep _ _ hF4 nFp nFc
          refine ⟨_, hF6, by rw [List.length_map]; exact smallL (by omega), (x4.trans x6).mut hF nFp nFc, rs ++ [G], by simp [hrs], by rw [upd_same, List.map_append]; rfl, fun r hr => ?_⟩
          rcases List.mem_append.mp hr with hr | hr
          · exact ⟨(hR4 r hr).1, ((hR4 r hr).2.px x6).mut (hR4 r hr).1⟩
          · rw [List.mem_singleton] at hr; subst hr
            exact ⟨nGF, RowL.mut ⟨nGp, nGc, row, hG6, hg'⟩ nGF⟩
      · obtain ⟨x4, rs, hrs, hF4, hR4⟩ := hPi
        have hrs' : rs.length = n1 := hrs
        refine ⟨p, c, F, 2, rfl, x4.pool, ⟨nFp, nFc, rs, n2, hF4, fun r hr => (hR4 r hr).2, by omega, by omega, by omega, by omega⟩, fun t H9 tab x9 => ?_⟩
        exact q t H9 (tab.mono (by decide)) (X3.trans (x4.trans x9))
end K15
end
section
set_option maxRecDepth 100000
set_option maxHeartbeats 4000000
namespace K15
open PySem PySem.Spec PyProof.Rows L2
variable {P : Program} {w : World} {K : PySem.W.Frag} {mg : Str → Option Value} {base : Heap} {C : Addr}
theorem cut_to (ns : List Int) (k : Nat) : cutV (ns.map V.int) none (some (k : Int)) = (ns.take k).map V.int := by
  unfold cutV
  rw [HT.sIx_none, HT.sIx_nat, List.drop_zero, ← List.map_take, Nat.sub_zero]
  congr 1
  rw [List.length_map]
  rw [Nat.min_def]
  split
  · rfl
  · rw [List.take_of_length_le (Nat.le_refl _), List.take_of_length_le (by omega)]
def sp_law_pool (K : PySem.W.Frag) : Sp := fun vs H Q _ => ∃ (a : Addr) (ns : List Int), vs = [.ref a] ∧ SqL K H a (ns.map V.int) ∧ ∀ p c H', Same H H' → Pool H' p c → Q (.ref p) H'
theorem cal_law_pool (T : Txt K mg C) : Cal P w K mg base 1 "_law_pool" (sp_law_pool K) := by
  refine cal_of T.d_law_pool sc_law_pool (fun vs H Q E h => ?_) fun f cdv A outer s H vs Q E hr h => ?_
  · obtain ⟨a, ns, rfl, _⟩ := h
    rfl
  · obtain ⟨a, ns, rfl, hsq, q⟩ := h
    have nd := sc_law_pool.nd
    refine ⟨_, (pss_cons (ps_set (i := 1) nd rfl (Or.inl rfl) (pe_op op_add (pe_op op_add (pe_op op_mod (pe_callTy call_int1 (by rfl) T.b_int (by decide +kernel) (pa_cons (pe_callB (cr_sum rfl) (by rfl) T.b_sum (by decide +kernel) (pa_cons (pe_slice sl_list (pv 0) po_none (po_some pe_int)) pa_nil)) pa_nil)) pe_int) (pe_callB call_len_seq (by rfl) T.b_len PySem.boot_len (pa_cons (pv 0) pa_nil))) pe_int))
(pss_cons (ps_for PassesOwn.never rfl (pi_list (pe_slice sl_list (pv 0) po_none (po_some pe_int))) (pg_name (i := 2) nd rfl (Or.inl rfl))
(pss_one (ps_set (i := 1) nd rfl (Or.inl rfl) (pe_op op_mod (pe_callTy call_int1 (by rfl) T.b_int (by decide +kernel) (pa_cons (pe_op op_add (pe_op op_add (pe_op op_mul (pv 1) pe_int) (pe_op op_mod (pe_callTy call_int1 (by rfl) T.b_int (by decide +kernel) (pa_cons (pv 2) pa_nil)) pe_int)) pe_int) pa_nil)) pe_int))))
(pss_one (ps_ret (pe_lst (pa_cons (pv 1) (pa_cons pe_int (pa_cons (pe_lc (own := [("_law_cell", 2)]) rfl nd (pi_list (pe_slice sl_list (pv 0) po_none (po_some pe_int))) (blkOk_by (own := [("_law_cell", 2)]) (N := N_law_pool) (sc := defScope s_law_pool) (by decide +kernel)) (fun _ _ _ _ _ => (pg_name (i := 2) nd rfl (Or.inl rfl))) (fun _ _ _ _ _ => (pts_one (pt_cmpR op_ge (pe_callB call_abs (by rfl) T.b_abs (by decide +kernel) (pa_cons (pv 2) pa_nil)) (pe_op op_pow pe_int pe_int) (nomark _)))) (fun _ _ _ _ _ => (pe_callB call_abs (by rfl) T.b_abs (by decide +kernel) (pa_cons (pv 2) pa_nil)))) pa_nil)))))))), ?_⟩
    have sqS : ∀ {H' : Hp}, Same H H' → SqL K H' a (ns.map V.int) := fun {H'} s => by
      exact hsq.elim (fun h => .inl (h.elim (fun h => .inl (s _ _ h)) fun ⟨o, h⟩ => .inr ⟨o, s _ _ h⟩)) fun h => .inr h
    refine ⟨_, rfl, 1, rfl, a, _, rfl, hsq, fun p1 n1 => ?_⟩
    rw [show cutV (ns.map V.int) none (some 1) = (ns.take 1).map V.int from cut_to ns 1]
    have s1 : Same H (upd H p1 (.lst ((ns.take 1).map V.int))) := same_upd n1
    refine ⟨p1, _, rfl, SqL.of upd_same, .inl ⟨_, rfl, _, 1000003, rfl, rfl, (by decide : (0 : Int) < 1000003), _, rfl, a, _, rfl, .inl (sqS s1), _, _, rfl, rfl, _, _, rfl, rfl, ?_⟩⟩
    refine ⟨_, rfl, 63, rfl, a, _, rfl, sqS s1, fun p2 n2 => ?_⟩
    rw [show cutV (ns.map V.int) none (some 63) = (ns.take 63).map V.int from cut_to ns 63]
    refine ⟨p2, rfl, ⟨_, SqL.of upd_same⟩, ?_⟩
    have s2 := same_new (o := .lst ((ns.take 63).map V.int)) s1 n2
    have intAt : ∀ {i : Nat} {v : V}, ((ns.take 63).map V.int)[i]? = some v → ∃ z, v = .int z := fun {i v} h => by
      rw [List.getElem?_map, Option.map_eq_some_iff] at h
      obtain ⟨z, _, rfl⟩ := h
      exact ⟨z, rfl⟩
    refine for_it walk_list (fun i σ H' => ∃ sd y2, σ = [some (.ref a), some (.int sd), y2] ∧ Same H H' ∧ H' p2 = some (.lst ((ns.take 63).map V.int))) ⟨_, _, rfl, s2, upd_same⟩ (fun i σ H' _ ⟨_, _, _, _, h⟩ => SqL.of h) ?_ ?_
    · rintro i x σ H3 H2 hi ⟨sd, y2, rfl, s3, h3⟩ ⟨rfl, hx⟩
      obtain ⟨z, rfl⟩ := intAt hx
      refine ⟨_, rfl, _, 48271, rfl, rfl, .inr (by decide), _, rfl, .inl ⟨_, rfl, _, 2147483629, rfl, rfl, (by decide : (0 : Int) < 2147483629), _, _, rfl, rfl, _, 11, rfl, rfl, .inl ⟨_, rfl, _, 2147483647, rfl, rfl, p31, ?_⟩⟩⟩
      exact ⟨_, _, rfl, s3, h3⟩
    · rintro σ H2 ⟨sd, y2, rfl, s3, h3⟩
      refine ⟨_, rfl, _, rfl, 63, rfl, a, _, rfl, sqS s3, fun p3 n3 => ?_⟩
      rw [show cutV (ns.map V.int) none (some 63) = (ns.take 63).map V.int from cut_to ns 63]
      refine ⟨p3, rfl, ⟨_, SqL.of upd_same⟩, fun D hD => ?_⟩
      have s4 := same_new (o := .lst ((ns.take 63).map V.int)) s3 n3
      have h4 : (upd H2 p3 (.lst ((ns.take 63).map V.int))) p3 = some (.lst ((ns.take 63).map V.int)) := upd_same
      have hD0 := s4.free hD
      have n3D : p3 ≠ D := ne_of_none h4 hD
      refine lc_it walk_list (fun i H' => Same H H' ∧ H' p3 = some (.lst ((ns.take 63).map V.int)) ∧ ∃ cs : List Int, cs.length ≤ i ∧ H' D = some (.lst (cs.map V.int))) ⟨same_new s4 hD, by rw [upd_ne n3D]; exact h4, [], Nat.zero_le _, upd_same⟩ (fun _ _ _ h => SqL.of h.2.1) (fun i x H5 H4 hi hPi hY => ?_) fun H4 hPi => ?_
      · obtain ⟨s5, h5, cs, hcs, hD5⟩ := hPi
        obtain ⟨rfl, hx⟩ := hY
        obtain ⟨z, rfl⟩ := intAt hx
        have hi' : i < ((ns.take 63).map V.int).length := hi
        rw [List.length_map, List.length_take] at hi'
        refine ⟨rfl, ?_⟩
        refine ⟨_, rfl, _, rfl, 10, 18, rfl, rfl, ⟨by decide, by decide, by decide⟩, _, _, rfl, rfl, _, rfl, ite2 (fun _ => ?_) fun _ => ?_⟩
        · exact ⟨_, rfl, _, rfl, _, hD5, by rw [List.length_map]; exact smallL (by omega), same_mut s5 hD0, by rw [upd_ne n3D]; exact h5, cs ++ [_], by simp [hcs], by rw [upd_same, List.map_append]; rfl⟩
        · exact ⟨s5, h5, cs, by omega, hD5⟩
      · obtain ⟨s5, h5, cs, hcs, hD5⟩ := hPi
        refine ⟨small (by show 3 ≤ 100000; decide), fun l nl => ?_⟩
        have nlD : l ≠ D := Ne.symm (ne_of_none hD5 nl)
        exact q l D _ (same_new s5 nl) ⟨⟨sd, 0, cs, upd_same, by rw [upd_ne (Ne.symm nlD)]; exact hD5⟩, nlD⟩
end K15
end
section
set_option maxRecDepth 100000
set_option maxHeartbeats 4000000
namespace K15
open PySem PySem.Spec PyProof.Rows L2
variable {P : Program} {w : World} {K : PySem.W.Frag} {mg : Str → Option Value} {base : Heap} {C : Addr}
def sp_law_told : Sp := fun vs H Q _ => ∃ (a : Addr) (bx : Bxs) (wd : Nat), vs = [.ref a] ∧ TabAt H a bx ∧ GoodB bx wd ∧ ∀ d H', Same H H' → H d = none → H' d = some (.dT (toldKV (told bx))) → Q (.ref d) H'
theorem cal_law_told (T : Txt K mg C) : Cal P w K mg base 1 "_law_told" sp_law_told := by
  refine cal_of T.d_law_told sc_law_told (fun vs H Q E h => ?_) fun f cdv A outer s H vs Q E hr h => ?_
  · obtain ⟨a, bx, wd, rfl, _⟩ := h
    rfl
  · obtain ⟨a, bx, wd, rfl, ⟨rs, ha, R⟩, G, q⟩ := h
    have nd := sc_law_told.nd
    have hu := hu_of hr
    refine ⟨_, (pss_cons (ps_set (i := 1) nd rfl (Or.inl rfl) pe_dnewT)
(pss_cons (ps_for PassesOwn.never rfl (pi_range1 (by rfl) T.b_range (pa_cons (pe_callB call_len_seq (by rfl) T.b_len PySem.boot_len (pa_cons (pv 0) pa_nil)) pa_nil)) (pg_name (i := 2) nd rfl (Or.inl rfl))
(pss_one (ps_for PassesOwn.never rfl (pi_range1 (by rfl) T.b_range (pa_cons (pe_callB call_len_seq (by rfl) T.b_len PySem.boot_len (pa_cons (pe_ix ix_tup (pv 0) pe_int (fun _ _ => rfl)) pa_nil)) pa_nil)) (pg_name (i := 3) nd rfl (Or.inl rfl))
(pss_one (ps_if (pt_cmp (pc_notN (pe_ix ix_tup (pe_ix ix_tup (pv 0) (pv 2) (fun _ _ => rfl)) (pv 3) (fun _ _ => rfl))))
(pss_one (ps_dput hu (pv 1) (pe_tup (pa_cons (pv 2) (pa_cons (pv 3) pa_nil))) (pe_ix ix_tup (pe_ix ix_tup (pv 0) (pv 2) (fun _ _ => rfl)) (pv 3) (fun _ _ => rfl)) rfl))
pss_nil)))))
(pss_one (ps_ret (pv 1))))), ?_⟩
    have hn : (rs.map V.ref).length = bx.length := by rw [List.length_map]; exact R.1
    obtain ⟨r0, row0, _, hr0, hb0, hrow0⟩ := tab_row (i := 0) R (List.getElem?_eq_getElem (by rw [hn]; exact G.h1))
    have hw0 : row0.length = wd := G.rows row0 (List.mem_of_getElem? hb0)
    have g2 := G.h2
    have g4 := G.w2
    refine fun d hd => ?_
    have s1 : Same H (upd H d (.dT [])) := same_upd hd
    refine ⟨_, rfl, a, _, rfl, .inr (SqT.of (s1 _ _ ha)), _, rfl, by omega, by omega, ?_⟩
    refine for_it walk_rg0 (fun i σ H' => ∃ y2 y3, σ = [some (.ref a), some (.ref d), y2, y3] ∧ Same H H' ∧ H' d = some (.dT (toldKV (tabT bx i)))) ⟨_, _, rfl, s1, upd_same⟩ (fun _ _ _ _ _ => trivial) ?_ ?_
    · rintro i x σ H3 H2 hi ⟨y2, y3, rfl, s2, hd2⟩ ⟨rfl, rfl⟩
      have hi' : i < (rs.map V.ref).length := hi
      obtain ⟨r, row, hv, hri, hbi, hrow⟩ := tab_row R (List.getElem?_eq_getElem hi')
      have hwr : row.length = wd := G.rows row (List.mem_of_getElem? hbi)
      have hgd : bx.getD i [] = row := getD_of hbi
      have hat : (rs.map V.ref)[i]? = some (.ref r) := by rw [List.getElem?_eq_getElem hi', hv]
      refine ⟨_, rfl, a, _, 0, .ref r0, rfl, rfl, SqT.of (s2 _ _ ha), atI_nat (j := 0) (by rw [List.getElem?_map, hr0]; rfl), r0, _, rfl, .inr (SqT.of (s2 _ _ hrow0)), _, rfl, by omega, by rw [List.length_map]; omega, ?_⟩
      refine for_it walk_rg0 (fun j σ H' => ∃ y3, σ = [some (.ref a), some (.ref d), some (.int (i : Int)), y3] ∧ Same H H' ∧ H' d = some (.dT (toldKV (tabT bx i ++ rowT i row j)))) ⟨_, rfl, s2, by rw [hd2]; simp [rowT]⟩ (fun _ _ _ _ _ => trivial) ?_ ?_
      · rintro j x σ H5 H4 hj ⟨y3, rfl, s4, hd4⟩ ⟨rfl, rfl⟩
        have hj0 : j < (row0.map optV).length := hj
        have hj' : j < row.length := by rw [List.length_map] at hj0; omega
        have hjo : (row.map optV)[j]? = some (optV row[j]) := by rw [List.getElem?_map, List.getElem?_eq_getElem hj']; rfl
        have hgo : row.getD j none = row[j] := getD_of (List.getElem?_eq_getElem hj')
        refine ⟨_, rfl, _, rfl, a, _, i, _, rfl, rfl, SqT.of (s4 _ _ ha), atI_nat hat, _, rfl, r, _, j, _, rfl, rfl, SqT.of (s4 _ _ hrow), atI_nat hjo, _, rfl, ?_⟩
        cases ho : row[j] with
        | none =>
          rw [ho] at hgo
          refine iteF ⟨_, rfl, s4, ?_⟩
          rw [rowT_succ, hgo, List.append_nil]
          exact hd4
        | some z =>
          rw [ho] at hgo hjo
          refine iteT ?_
          refine ⟨_, rfl, _, rfl, a, _, i, _, rfl, rfl, SqT.of (s4 _ _ ha), atI_nat hat, _, rfl, r, _, j, _, rfl, rfl, SqT.of (s4 _ _ hrow), atI_nat hjo, ?_⟩
          refine ⟨_, rfl, _, rfl, _, rfl, small (by show 2 ≤ 100000; decide), fun k nk => ?_⟩
          have hsz : (toldKV (tabT bx i ++ rowT i row j)).length < sizeLine := by
            have h1 := tabT_len G i
            have h2 := rowT_len i row j
            rw [toldKV_len, List.length_append]
            exact smallL (by omega)
          have ndk : d ≠ k := ne_of_none hd4 nk
          refine ⟨d, _, rfl, DPut.t (k := keyK (i, j)) (by rw [upd_ne ndk]; exact hd4) upd_same hsz, _, rfl, same_mut (same_new s4 nk) hd, ?_⟩
          rw [upd_same]
          show some (HO.dT (putK (toldKV _) (keyK (i, j)) (V.str z))) = _
          rw [toldKV_snoc _ _ _ part_ne, rowT_succ, hgo, List.append_assoc]
      · rintro σ H4 ⟨y3, rfl, s4, hd4⟩
        refine ⟨_, _, rfl, s4, ?_⟩
        rw [tabT_succ, hgd, hd4]
        show some (HO.dT (toldKV (tabT bx i ++ rowT i row (row0.map optV).length))) = _
        rw [List.length_map, hw0, hwr]
    · rintro σ H2 ⟨y2, y3, rfl, s2, hd2⟩
      have hd2' : H2 d = some (.dT (toldKV (tabT bx (rs.map V.ref).length))) := hd2
      rw [hn] at hd2'
      exact ⟨_, rfl, q d H2 s2 hd hd2'⟩
end K15
end
section
set_option maxRecDepth 100000
set_option maxHeartbeats 4000000
namespace K15
open PySem PySem.Spec PyProof.Rows L2
variable {P : Program} {w : World} {K : PySem.W.Frag} {mg : Str → Option Value} {base : Heap} {C : Addr}
/-- a told box in the table's tuples -/
theorem tab_box {H : Hp} {rs : List Addr} {bx : Bxs} {b : Bx} {z : Str} (R : RowsAt H rs .tup bx) (h : boxAt bx b = some z) : ∃ (r : Addr) (xs : List V), (rs.map V.ref)[b.1]? = some (.ref r) ∧ H r = some (.tup xs) ∧ xs[b.2]? = some (.str (S (formL bx b))) := by
  have hz := boxAt_formL h
  have h2 : b.2 < (bx.getD b.1 []).length := getD_lt h
  have h1 : b.1 < bx.length := by
    by_cases hn : b.1 < bx.length
    · exact hn
    · rw [List.getD_eq_getElem?_getD, List.getElem?_eq_none (by omega)] at h2
      exact absurd h2 (Nat.not_lt_zero _)
  have h1' : b.1 < rs.length := by rw [R.1]; exact h1
  have hr := R.2 b.1 rs[b.1] bx[b.1] (List.getElem?_eq_getElem h1') (List.getElem?_eq_getElem h1)
  have hb : bx.getD b.1 [] = bx[b.1] := getD_of (List.getElem?_eq_getElem h1)
  refine ⟨rs[b.1], _, by rw [List.getElem?_map, List.getElem?_eq_getElem h1']; rfl, hr, ?_⟩
  have h' : (bx.getD b.1 []).getD b.2 none = some z := h
  rw [hb] at h' h2
  rw [List.getD_eq_getElem?_getD, List.getElem?_eq_getElem h2] at h'
  rw [List.getElem?_map, List.getElem?_eq_getElem h2]
  simp only [Option.getD_some] at h'
  rw [h', ← hz]
  rfl
theorem way_last {H : Hp} {as : List Addr} {pth : List Bx} {az : Addr} (hW : WayAt H as pth) (hpos : 0 < pth.length) (gaz : as[pth.length - 1]? = some az) : atI (as.map V.ref) (-1) = some (.ref az) := by
  obtain ⟨l, x, hx⟩ := snoc_of (l := as) (by rw [hW.1]; exact hpos)
  have hll : as.length - 1 = l.length := by rw [hx]; simp
  rw [← hW.1, hll, hx, List.getElem?_append_right (Nat.le_refl _)] at gaz
  simp at gaz
  subst gaz
  rw [hx, List.map_append]
  exact atI_last _ _
def sp_law_tells : Sp := fun vs H Q _ => ∃ (a t : Addr) (bx : Bxs) (wd : Nat) (pth : List Bx), vs = [.ref a, .ref t] ∧ TabAt H a bx ∧ GoodB bx wd ∧ WayT H t pth ∧ (∀ b ∈ pth, b ∈ keys bx) ∧ pth.length ≤ 100 ∧ ∀ H', Same H H' → Q (.str (S (tellsL bx pth))) H'
theorem cal_law_tells (T : Txt K mg C) : Cal P w K mg base 2 "_law_tells" sp_law_tells := by
  have c_law_struck := cal_law_struck (P := P) (w := w) (base := base) T
  have c_law_undone := cal_law_undone (P := P) (w := w) (base := base) T
  refine cal_of T.d_law_tells sc_law_tells (fun vs H Q E h => ?_) fun f cdv A outer s H vs Q E hr h => ?_
  · obtain ⟨a, t, bx, wd, pth, rfl, _⟩ := h
    rfl
  · obtain ⟨a, t, bx, wd, pth, rfl, ⟨rs, ha, R⟩, G, ⟨as, hw, W⟩, hm, hl, q⟩ := h
    have nd := sc_law_tells.nd
    refine ⟨_, (pss_cons (ps_set (i := 2) nd rfl (Or.inl rfl) pe_str)
(pss_cons (ps_for PassesOwn.never rfl (pi_range1 (by rfl) T.b_range (pa_cons (pe_callB call_len_seq (by rfl) T.b_len PySem.boot_len (pa_cons (pv 1) pa_nil)) pa_nil)) (pg_name (i := 3) nd rfl (Or.inl rfl))
(pss_cons (ps_set (i := 4) nd rfl (Or.inl rfl) (pe_ix ix_tup (pe_ix ix_tup (pv 0) (pe_ix ix_tup (pe_ix ix_tup (pv 1) (pv 3) (fun _ _ => rfl)) pe_int (fun _ _ => rfl)) (fun _ _ => rfl)) (pe_ix ix_tup (pe_ix ix_tup (pv 1) (pv 3) (fun _ _ => rfl)) pe_int (fun _ _ => rfl)) (fun _ _ => rfl)))
(pss_one (ps_set (i := 2) nd rfl (Or.inl rfl) (pe_op op_add_str (pv 2) (pe_ifExp (pt_cmpR op_eq (pe_op op_mod (pe_callTy call_int1 (by rfl) T.b_int (by decide +kernel) (pa_cons (pv 3) pa_nil)) pe_int) pe_int (nomark _)) (pv 4) (pe_c c_law_undone hr (by decide) (by rfl) (pa_cons (pv 4) pa_nil))))))))
(pss_one (ps_ret (pe_c c_law_struck hr (by decide) (by rfl) (pa_cons (pv 2) pa_nil)))))), ?_⟩
    have hlen : (as.map V.ref).length = pth.length := by rw [List.length_map]; exact W.1
    refine ⟨_, rfl, t, _, rfl, .inr (SqT.of hw), _, rfl, by omega, by omega, ?_⟩
    refine for_it walk_rg0 (fun i σ H' => ∃ y3 y4, σ = [some (.ref a), some (.ref t), some (.str (S ((partsL bx pth).take i).flatten)), y3, y4] ∧ Same H H') ⟨_, _, rfl, Same.refl H⟩ (fun _ _ _ _ _ => trivial) ?_ ?_
    · rintro i x σ H3 H2 hi ⟨y3, y4, rfl, s2⟩ ⟨rfl, rfl⟩
      have hi' : i < (as.map V.ref).length := hi
      obtain ⟨ai, b, hv, hb, hai⟩ := way_get W (List.getElem?_eq_getElem hi')
      have hat : (as.map V.ref)[i]? = some (.ref ai) := by rw [List.getElem?_eq_getElem hi', hv]
      obtain ⟨z, hz⟩ := mem_keys.mp (hm b (List.mem_of_getElem? hb))
      obtain ⟨r, xs, hr1, hr2, hr3⟩ := tab_box R hz
      refine ⟨_, rfl, _, rfl, _, rfl, t, _, i, _, rfl, rfl, SqT.of (s2 _ _ hw), atI_nat hat, ai, _, 0, _, rfl, rfl, SqT.of (s2 _ _ hai), atI_nat (j := 0) rfl, a, _, (b.1 : Int), _, rfl, rfl, SqT.of (s2 _ _ ha), atI_nat hr1, ?_⟩
      refine ⟨_, rfl, _, rfl, t, _, i, _, rfl, rfl, SqT.of (s2 _ _ hw), atI_nat hat, ai, _, 1, _, rfl, rfl, SqT.of (s2 _ _ hai), atI_nat (j := 1) rfl, r, _, (b.2 : Int), _, rfl, rfl, SqT.of (s2 _ _ hr2), atI_nat hr3, ?_⟩
      obtain ⟨f1, f2⟩ := formL_ab G b
      have hfl : ((partsL bx pth).take i).flatten.length ≤ 3000 := by
        have h1 := flat_len (ls := (partsL bx pth).take i) (n := 30) fun l hl => (partsL_sg G pth l (List.take_subset _ _ hl)).2
        have h2 : ((partsL bx pth).take i).length ≤ 100 := by rw [List.length_take, partsL_len]; omega
        omega
      have hstep : ((partsL bx pth).take (i + 1)).flatten = ((partsL bx pth).take i).flatten ++ partL bx i b := by rw [partsL_take bx pth i b hb]; simp
      refine ⟨_, rfl, _, rfl, .inl ⟨_, rfl, _, 2, rfl, rfl, (by decide : (0 : Int) < 2), rfl, _, rfl, ?_⟩⟩
      by_cases h0 : i % 2 = 0
      · refine iteD (congrArg V.int (by omega)) ⟨_, rfl, S _, S _, rfl, rfl, by rw [S_len, S_len]; exact small (by omega), ?_⟩
        refine ⟨some (.int (i : Int)), some (.str (S (formL bx b))), ?_, s2⟩
        rw [hstep, S_cat]
        unfold partL
        rw [if_pos h0]
        rfl
      · refine iteND (fun z => h0 (by have := V.int.inj z; omega)) ⟨_, rfl, formL bx b, rfl, f1.sg, by omega, fun H5 s5 => ⟨S _, S _, rfl, rfl, ?_, ?_⟩⟩
        · have : (inv (formL bx b)).length = (formL bx b).length := by simp [inv]
          rw [S_len, S_len]
          exact small (by omega)
        · refine ⟨some (.int (i : Int)), some (.str (S (formL bx b))), ?_, s2.trans s5⟩
          rw [hstep, S_cat]
          unfold partL
          rw [if_neg h0]
          rfl
    · rintro σ H2 ⟨y3, y4, rfl, s2⟩
      have e : (partsL bx pth).take (as.map V.ref).length = partsL bx pth := List.take_of_length_le (by rw [hlen, partsL_len]; exact Nat.le_refl _)
      have h1 := flat_len (ls := partsL bx pth) (n := 30) fun l hl => (partsL_sg G pth l hl).2
      rw [partsL_len] at h1
      refine ⟨_, rfl, (partsL bx pth).flatten, ?_, flat_sg fun l hl => (partsL_sg G pth l hl).1, by omega, fun H3 s3 => q H3 (s2.trans s3)⟩
      show [V.str (S ((partsL bx pth).take (as.map V.ref).length).flatten)] = _
      rw [e]

def sp_law_is_box : Sp := fun vs H Q _ => ∃ (a ba : Addr) (bx : Bxs) (wd : Nat) (b : Bx), vs = [.ref a, .ref ba] ∧ TabAt H a bx ∧ GoodB bx wd ∧ H ba = some (tupB b) ∧ b ∈ keys bx ∧ Q (.bl true) H
theorem cal_law_is_box (T : Txt K mg C) : Cal P w K mg base 1 "_law_is_box" sp_law_is_box := by
  refine cal_of T.d_law_is_box sc_law_is_box (fun vs H Q E h => ?_) fun f cdv A outer s H vs Q E hr h => ?_
  · obtain ⟨a, ba, bx, wd, b, rfl, _⟩ := h
    rfl
  · obtain ⟨a, ba, bx, wd, b, rfl, ⟨rs, ha, R⟩, G, hb, hbk, q⟩ := h
    have nd := sc_law_is_box.nd
    refine ⟨_, (pss_cons (ps_if (PW.pt (pw_or (pt_not (pt_val (pe_callB call_isi (by rfl) T.b_isinstance (by decide +kernel) (pa_cons (pv 1) (pa_cons (pe_ty "tuple" (by rfl) T.b_tuple (by decide +kernel)) pa_nil))))) (pw_or1 (pt_cmpR op_ne (pe_callB call_len_seq (by rfl) T.b_len PySem.boot_len (pa_cons (pv 1) pa_nil)) pe_int (nomark _)))))
(pss_one (ps_ret pe_bl))
pss_nil)
(pss_cons (ps_for PassesOwn.never rfl (pi_tup (pv 1)) (pg_name (i := 2) nd rfl (Or.inl rfl))
(pss_one (ps_if (PW.pt (pw_or (pt_not (pt_val (pe_callB call_isi (by rfl) T.b_isinstance (by decide +kernel) (pa_cons (pv 2) (pa_cons (pe_ty "int" (by rfl) T.b_int (by decide +kernel)) pa_nil))))) (pw_or1 (pt_val (pe_callB call_isi (by rfl) T.b_isinstance (by decide +kernel) (pa_cons (pv 2) (pa_cons (pe_ty "bool" (by rfl) T.b_bool (by decide +kernel)) pa_nil)))))))
(pss_one (ps_ret pe_bl))
pss_nil)))
(pss_cons (ps_if (PW.pt (pw_or (pt_not (pt_chain op_le op_lt pe_int (pe_ix ix_tup (pv 1) pe_int (fun _ _ => rfl)) (pe_callB call_len_seq (by rfl) T.b_len PySem.boot_len (pa_cons (pv 0) pa_nil)))) (pw_or1 (pt_not (pt_chain op_le op_lt pe_int (pe_ix ix_tup (pv 1) pe_int (fun _ _ => rfl)) (pe_callB call_len_seq (by rfl) T.b_len PySem.boot_len (pa_cons (pe_ix ix_tup (pv 0) pe_int (fun _ _ => rfl)) pa_nil)))))))
(pss_one (ps_ret pe_bl))
pss_nil)
(pss_one (ps_ret (pe_cmp (pc_notN (pe_ix ix_tup (pe_ix ix_tup (pv 0) (pe_ix ix_tup (pv 1) pe_int (fun _ _ => rfl)) (fun _ _ => rfl)) (pe_ix ix_tup (pv 1) pe_int (fun _ _ => rfl)) (fun _ _ => rfl))) rfl)))))), ?_⟩
    have hn : (rs.map V.ref).length = bx.length := by rw [List.length_map]; exact R.1
    obtain ⟨r0, row0, _, hr0, hb0, hrow0⟩ := tab_row (i := 0) R (List.getElem?_eq_getElem (by rw [hn]; exact G.h1))
    have hw0 : row0.length = wd := G.rows row0 (List.mem_of_getElem? hb0)
    obtain ⟨hb1, hb2⟩ := keys_lt G b hbk
    obtain ⟨z, hz⟩ := mem_keys.mp hbk
    obtain ⟨r, xs, hr1, hr2, hr3⟩ := tab_box R hz
    refine ⟨_, rfl, _, _, _, _, true, rfl, .ty "tuple", .base (.tup hb), kit_ty (by decide +kernel), true, rfl, iteF ?_⟩
    refine ⟨_, rfl, ba, _, rfl, .inr (SqT.of hb), rfl, _, rfl, ?_⟩
    rw [decide_eq_true (show V.int ((([V.int (b.1 : Int), V.int (b.2 : Int)] : List V).length : Nat) : Int) = V.int 2 from rfl)]
    refine iteF ?_
    refine ⟨_, rfl, ba, rfl, ⟨_, SqT.of hb⟩, ?_⟩
    refine for_it walk_tup (fun i σ H' => ∃ y2, σ = [some (.ref a), some (.ref ba), y2] ∧ H' = H) ⟨_, rfl, rfl⟩ (fun i σ H' _ ⟨_, _, h⟩ => h ▸ SqT.of hb) ?_ ?_
    · rintro i x σ H3 H2 hi ⟨y2, rfl, rfl⟩ ⟨rfl, hx⟩
      obtain ⟨n, rfl⟩ : ∃ n : Int, x = .int n := by
        have := List.mem_of_getElem? hx
        simp only [List.mem_cons, List.not_mem_nil, or_false] at this
        rcases this with rfl | rfl <;> exact ⟨_, rfl⟩
      refine ⟨_, rfl, _, _, _, _, true, rfl, .ty "int", .base (.int n), kit_ty (by decide +kernel), true, rfl, iteF ?_⟩
      refine ⟨_, rfl, _, _, _, _, false, rfl, .ty "bool", .base (.int n), kit_ty (by decide +kernel), false, rfl, iteF ?_⟩
      exact ⟨_, rfl, rfl⟩
    · rintro σ H2 ⟨y2, rfl, rfl⟩
      refine ⟨_, rfl, ba, _, 0, _, rfl, rfl, SqT.of hb, atI_nat (j := 0) rfl, 0, (b.1 : Int), rfl, rfl, _, rfl, ?_⟩
      rw [decide_eq_true (show (0 : Int) ≤ (b.1 : Int) by omega)]
      refine iteT ⟨_, rfl, a, _, rfl, .inr (SqT.of ha), (b.1 : Int), _, rfl, rfl, _, rfl, ?_⟩
      rw [decide_eq_true (show (b.1 : Int) < ((rs.map V.ref).length : Int) by omega)]
      refine iteF ?_
      refine ⟨_, rfl, ba, _, 1, _, rfl, rfl, SqT.of hb, atI_nat (j := 1) rfl, 0, (b.2 : Int), rfl, rfl, _, rfl, ?_⟩
      rw [decide_eq_true (show (0 : Int) ≤ (b.2 : Int) by omega)]
      refine iteT ⟨_, rfl, a, _, 0, .ref r0, rfl, rfl, SqT.of ha, atI_nat (j := 0) (by rw [List.getElem?_map, hr0]; rfl), r0, _, rfl, .inr (SqT.of hrow0), (b.2 : Int), _, rfl, rfl, _, rfl, ?_⟩
      rw [decide_eq_true (show (b.2 : Int) < ((row0.map optV).length : Int) by rw [List.length_map]; omega)]
      refine iteF ?_
      exact ⟨_, rfl, _, rfl, ba, _, 0, _, rfl, rfl, SqT.of hb, atI_nat (j := 0) rfl, a, _, (b.1 : Int), _, rfl, rfl, SqT.of ha, atI_nat hr1, _, rfl, ba, _, 1, _, rfl, rfl, SqT.of hb, atI_nat (j := 1) rfl, r, _, (b.2 : Int), _, rfl, rfl, SqT.of hr2, atI_nat hr3, q⟩

def sp_law_goes : Sp := fun vs H Q _ => ∃ (a t : Addr) (bx : Bxs) (wd : Nat) (pth : List Bx), vs = [.ref a, .ref t] ∧ TabAt H a bx ∧ GoodB bx wd ∧ WayT H t pth ∧ Steps (keys bx) pth ∧ 1 ≤ pth.length ∧ pth.length ≤ 1000 ∧ ∀ H', Same H H' → Q (.bl true) H'
theorem cal_law_goes (T : Txt K mg C) : Cal P w K mg base 2 "_law_goes" sp_law_goes := by
  have c_law_is_box := cal_law_is_box (P := P) (w := w) (base := base) T
  refine cal_of T.d_law_goes sc_law_goes (fun vs H Q E h => ?_) fun f cdv A outer s H vs Q E hr h => ?_
  · obtain ⟨a, t, bx, wd, pth, rfl, _⟩ := h
    rfl
  · obtain ⟨a, t, bx, wd, pth, rfl, ht, G, ⟨as, hw, W⟩, St, hl1, hl2, q⟩ := h
    have nd := sc_law_goes.nd
    refine ⟨_, (pss_cons (ps_if (PW.pt (pw_or (pt_not (pt_val (pe_callB call_isi (by rfl) T.b_isinstance (by decide +kernel) (pa_cons (pv 1) (pa_cons (pe_ty "tuple" (by rfl) T.b_tuple (by decide +kernel)) pa_nil))))) (pw_or1 (pt_cmpR op_gt (pe_callB call_len_seq (by rfl) T.b_len PySem.boot_len (pa_cons (pe_lc (own := [("_law_box", 4)]) rfl nd (pi_tup (pv 1)) (blkOk_by (own := [("_law_box", 4)]) (N := N_law_goes) (sc := defScope s_law_goes) (by decide +kernel)) (fun _ _ _ _ _ => (pg_name (i := 4) nd rfl (Or.inl rfl))) (fun _ _ _ _ _ => (pts_one (pt_not (pt_val (pe_c c_law_is_box hr (by decide) (by rfl) (pa_cons (pv 0) (pa_cons (pv 4) pa_nil))))))) (fun _ _ _ _ _ => (pv 4))) pa_nil)) pe_int (nomark _)))))
(pss_one (ps_ret pe_bl))
pss_nil)
(pss_cons (ps_for PassesOwn.never rfl (pi_range2 (by rfl) T.b_range (pa_cons pe_int (pa_cons (pe_callB call_len_seq (by rfl) T.b_len PySem.boot_len (pa_cons (pv 1) pa_nil)) pa_nil))) (pg_name (i := 2) nd rfl (Or.inl rfl))
(pss_cons (ps_set (i := 3) nd rfl (Or.inl rfl) (pe_op op_mod (pe_callTy call_int1 (by rfl) T.b_int (by decide +kernel) (pa_cons (pv 2) pa_nil)) pe_int))
(pss_one (ps_if (PW.pt (pw_or (pt_cmpR (op_eqD hr.units) (pe_ix ix_tup (pv 1) (pv 2) (fun _ _ => rfl)) (pe_ix ix_tup (pv 1) (pe_op op_sub (pv 2) pe_int) (fun _ _ => rfl)) (nomark _)) (pw_or1 (pt_cmpR op_ne (pe_ix ix_tup (pe_ix ix_tup (pv 1) (pv 2) (fun _ _ => rfl)) (pv 3) (fun _ _ => rfl)) (pe_ix ix_tup (pe_ix ix_tup (pv 1) (pe_op op_sub (pv 2) pe_int) (fun _ _ => rfl)) (pv 3) (fun _ _ => rfl)) (nomark _)))))
(pss_one (ps_ret pe_bl))
pss_nil))))
(pss_one (ps_ret pe_bl)))), ?_⟩
    have hlen : (as.map V.ref).length = pth.length := by rw [List.length_map]; exact W.1
    refine ⟨_, rfl, _, _, _, _, true, rfl, .ty "tuple", .base (.tup hw), kit_ty (by decide +kernel), true, rfl, iteF ?_⟩
    refine ⟨_, rfl, t, rfl, ⟨_, SqT.of hw⟩, fun D hD => ?_⟩
    refine lc_it walk_tup (fun i H' => Same H H' ∧ H' D = some (.lst [])) ⟨same_upd hD, upd_same⟩ (fun _ _ _ h => SqT.of (h.1 _ _ hw)) (fun i x H3 H2 hi hP hY => ?_) fun H2 hP => ?_
    · obtain ⟨s1, hL⟩ := hP
      obtain ⟨rfl, hx⟩ := hY
      obtain ⟨ba, b, rfl, hb, hba⟩ := way_get W hx
      exact ⟨rfl, _, rfl, _, rfl, a, ba, bx, wd, b, rfl, ht.same s1, G, s1 _ _ hba, St.mem b (List.mem_of_getElem? hb), true, rfl, iteF ⟨s1, hL⟩⟩
    · obtain ⟨s1, hL⟩ := hP
      refine ⟨D, _, rfl, .inl (SqL.of hL), _, 0, rfl, rfl, _, rfl, ?_⟩
      rw [decide_eq_false (show ¬ (0 : Int) < (([] : List V).length : Int) by decide)]
      refine iteF ?_
      have hw1 := s1 _ _ hw
      refine ⟨_, rfl, t, _, rfl, .inr (SqT.of hw1), 1, _, rfl, ⟨by decide, by decide, by omega, by omega⟩, ?_⟩
      refine for_it walk_rg1 (fun i σ H' => ∃ y2 y3, σ = [some (.ref a), some (.ref t), y2, y3, none] ∧ Same H H') ⟨_, _, rfl, s1⟩ (fun _ _ _ _ _ => trivial) ?_ ?_
      · rintro i x σ H4 H3 hi ⟨y2, y3, rfl, s3⟩ ⟨rfl, rfl⟩
        have hi' : i + 1 < (as.map V.ref).length := by
          have : i < (((as.map V.ref).length : Int) - 1).toNat := hi
          omega
        obtain ⟨a1, b1, hv1, g1, ha1⟩ := way_get W (i := i) (List.getElem?_eq_getElem (by omega))
        obtain ⟨a2, b2, hv2, g2, ha2⟩ := way_get W (i := i + 1) (List.getElem?_eq_getElem hi')
        have at1 : (as.map V.ref)[i]? = some (.ref a1) := by rw [List.getElem?_eq_getElem (by omega), hv1]
        have at2 : (as.map V.ref)[i + 1]? = some (.ref a2) := by rw [List.getElem?_eq_getElem hi', hv2]
        have hm1 : ((i + 1 : Nat) : Int) - 1 = (i : Int) := by omega
        have hk : ((i + 1 : Nat) : Int) % 2 = (((i + 1) % 2 : Nat) : Int) := by omega
        have hk2 : (i + 1) % 2 < 2 := by omega
        have hw3 := s3 _ _ hw
        refine ⟨_, rfl, .inl ⟨_, rfl, _, 2, rfl, rfl, (by decide : (0 : Int) < 2), ?_⟩⟩
        refine ⟨_, rfl, _, rfl, t, _, _, _, rfl, rfl, SqT.of hw3, atI_nat at2, _, rfl, _, rfl, _, 1, rfl, rfl, t, _, _, _, rfl, rfl, SqT.of hw3, by rw [hm1]; exact atI_nat at1, _, _, dp_bx (s3 _ _ ha2), dp_bx (s3 _ _ ha1), shaped_bx _, shaped_bx _, _, rfl, ?_⟩
        rw [eqv_bx, decide_eq_false (Ne.symm (St.ne i _ _ g1 g2))]
        refine iteF ?_
        refine ⟨_, rfl, _, rfl, t, _, _, _, rfl, rfl, SqT.of hw3, atI_nat at2, _, rfl, a2, _, _, _, rfl, rfl, SqT.of (s3 _ _ ha2), by rw [hk]; exact atI_nat (bx_get b2 _ hk2), ?_⟩
        refine ⟨_, rfl, _, rfl, _, 1, rfl, rfl, t, _, _, _, rfl, rfl, SqT.of hw3, by rw [hm1]; exact atI_nat at1, _, rfl, a1, _, _, _, rfl, rfl, SqT.of (s3 _ _ ha1), by rw [hk]; exact atI_nat (bx_get b1 _ hk2), rfl, _, rfl, ?_⟩
        have halt := St.alt i _ _ g1 g2
        have hv : (if (i + 1) % 2 = 0 then b2.1 else b2.2) = (if (i + 1) % 2 = 0 then b1.1 else b1.2) := by
          by_cases h0 : i % 2 = 0
          · rw [if_pos h0] at halt
            rw [if_neg (by omega), if_neg (by omega)]
            exact halt.symm
          · rw [if_neg h0] at halt
            rw [if_pos (by omega), if_pos (by omega)]
            exact halt.symm
        rw [hv, decide_eq_true (show V.int _ = V.int _ from rfl)]
        exact iteF ⟨_, _, rfl, s3⟩
      · rintro σ H3 ⟨y2, y3, rfl, s3⟩
        exact q H3 s3

def sp_law_is_way : Sp := fun vs H Q _ => ∃ (a t : Addr) (bx : Bxs) (wd r c : Nat) (pth : List Bx), vs = [.ref a, .int (r : Int), .int (c : Int), .ref t] ∧ TabAt H a bx ∧ GoodB bx wd ∧ WayT H t pth ∧ IsWay (keys bx) r c pth ∧ pth.length ≤ 1000 ∧ ∀ H', Same H H' → Q (.bl true) H'
theorem cal_law_is_way (T : Txt K mg C) : Cal P w K mg base 3 "_law_is_way" sp_law_is_way := by
  have c_law_goes := cal_law_goes (P := P) (w := w) (base := base) T
  refine cal_of T.d_law_is_way sc_law_is_way (fun vs H Q E h => ?_) fun f cdv A outer s H vs Q E hr h => ?_
  · obtain ⟨a, t, bx, wd, r, c, pth, rfl, _⟩ := h
    rfl
  · obtain ⟨a, t, bx, wd, r, c, pth, rfl, ht, G, Wt, IW, hl2, q⟩ := h
    have nd := sc_law_is_way.nd
    refine ⟨_, (pss_cons (ps_if (PW.pt (pw_or (pt_not (pt_val (pe_c c_law_goes hr (by decide) (by rfl) (pa_cons (pv 0) (pa_cons (pv 3) pa_nil))))) (pw_or1 (pt_cmpR op_eq (pe_op op_mod (pe_callTy call_int1 (by rfl) T.b_int (by decide +kernel) (pa_cons (pe_callB call_len_seq (by rfl) T.b_len PySem.boot_len (pa_cons (pv 3) pa_nil)) pa_nil)) pe_int) pe_int (nomark _)))))
(pss_one (ps_ret pe_bl))
pss_nil)
(pss_one (ps_ret (pe_and (pe_cmpR op_eq (pe_ix ix_tup (pe_ix ix_tup (pv 3) pe_int (fun _ _ => rfl)) pe_int (fun _ _ => rfl)) (pv 1) (nomark _)) (pe_one (pe_cmpR op_eq (pe_ix ix_tup (pe_ix ix_tup (pv 3) (pe_un un_neg pe_int) (fun _ _ => rfl)) pe_int (fun _ _ => rfl)) (pv 2) (nomark _))))))), ?_⟩
    have hodd := IW.odd
    have hpos : 0 < pth.length := by omega
    refine ⟨_, rfl, _, rfl, a, t, bx, wd, pth, rfl, ht, G, Wt, IW.steps, by omega, hl2, fun H1 s1 => ⟨true, rfl, iteF ?_⟩⟩
    obtain ⟨as, hw, hW⟩ := Wt
    refine ⟨_, rfl, t, _, rfl, .inr (SqT.of (s1 _ _ hw)), .inl ⟨_, rfl, _, 2, rfl, rfl, (by decide : (0 : Int) < 2), rfl, _, rfl, ?_⟩⟩
    rw [decide_eq_false (show ¬ V.int (((as.map V.ref).length : Int) % 2) = V.int 0 from fun z => by
      have := V.int.inj z
      rw [List.length_map, hW.1] at this
      omega)]
    refine iteF ?_
    obtain ⟨b0, hb0⟩ : ∃ b, pth[0]? = some b := ⟨_, List.getElem?_eq_getElem hpos⟩
    obtain ⟨bz, hbz⟩ : ∃ b, pth[pth.length - 1]? = some b := ⟨_, List.getElem?_eq_getElem (by omega)⟩
    obtain ⟨a0, ga0, ha0⟩ := hW.get hb0
    obtain ⟨az, gaz, haz⟩ := hW.get hbz
    have e0 : b0.1 = r := IW.first b0 hb0
    have ez : bz.2 = c := IW.last bz hbz
    refine ⟨_, rfl, t, _, 0, _, rfl, rfl, SqT.of (s1 _ _ hw), atI_nat (j := 0) (by rw [List.getElem?_map, ga0]; rfl), a0, _, 0, _, rfl, rfl, SqT.of (s1 _ _ ha0), atI_nat (j := 0) rfl, _, rfl, rfl, _, rfl, ?_⟩
    rw [e0, decide_eq_true (show V.int _ = V.int _ from rfl)]
    refine iteT ?_
    refine ⟨_, rfl, 1, rfl, t, _, -1, _, rfl, rfl, SqT.of (s1 _ _ hw), way_last hW hpos gaz, az, _, 1, _, rfl, rfl, SqT.of (s1 _ _ haz), atI_nat (j := 1) rfl, _, rfl, rfl, ?_⟩
    refine bl_true (Q := Q) ?_ (q H1 s1)
    rw [ez]
end K15
end
section
set_option maxRecDepth 100000
set_option maxHeartbeats 4000000
namespace K15
open PySem PySem.Spec PyProof.Rows L2
variable {P : Program} {w : World} {K : PySem.W.Frag} {mg : Str → Option Value} {base : Heap} {C : Addr}
def lvKV (l : List (Nat × Nat)) : List (Key × V) := l.map fun e => (Sum.inl (e.1 : Int), V.int (e.2 : Int))
theorem lvKV_len (l : List (Nat × Nat)) : (lvKV l).length = l.length := by simp [lvKV]
theorem lvKV_val : ∀ (l : List (Nat × Nat)) (i : Nat), valV (lvKV l) (Sum.inl (i : Int)) = (lkp l i).map fun n => V.int (n : Int)
  | [], i => rfl
  | e :: l, i => by
    have ih := lvKV_val l i
    unfold lkp at ih ⊢
    rw [List.find?_cons]
    by_cases h : e.1 = i
    · subst h
      rw [show lvKV (e :: l) = (Sum.inl (e.1 : Int), V.int (e.2 : Int)) :: lvKV l from rfl, valV_pos rfl]
      simp
    · have hb : (e.1 == i) = false := beq_eq_false_iff_ne.mpr h
      rw [show lvKV (e :: l) = (Sum.inl (e.1 : Int), V.int (e.2 : Int)) :: lvKV l from rfl, valV_neg (fun z => h (by have := Sum.inl.inj z; omega)), ih, hb]
theorem lvKV_put {l : List (Nat × Nat)} {k v : Nat} (h : lkp l k = none) : putK (lvKV l) (Sum.inl (k : Int)) (V.int (v : Int)) = lvKV (l ++ [(k, v)]) := by
  rw [putK_new _ (by rw [lvKV_val, h]; rfl)]
  simp [lvKV]
theorem lvC_len (t : Nat) (s : Lv) (b : Bx) : (lvC t s b).1.length + (lvC t s b).2.length ≤ s.1.length + s.2.length + 1 := by
  unfold lvC
  split
  · simp
    omega
  · omega
theorem lvR_len (t : Nat) (s : Lv) (b : Bx) : (lvR t s b).1.length + (lvR t s b).2.length ≤ s.1.length + s.2.length + 1 := by
  unfold lvR
  split
  · simp
    omega
  · omega
theorem lvF_len (t : Nat) : ∀ (M : List Bx) (s : Lv), (M.foldl (lvB t) s).1.length + (M.foldl (lvB t) s).2.length ≤ s.1.length + s.2.length + 2 * M.length
  | [], s => by simp
  | b :: M, s => by
    have h1 := lvF_len t M (lvB t s b)
    have h2 := lvR_len t (lvC t s b) b
    have h3 := lvC_len t s b
    rw [List.foldl_cons, List.length_cons]
    unfold lvB at h1 ⊢
    omega
theorem lvL_len (L : List Bx) (root : Nat) : ∀ N, (levels L N root).1.length + (levels L N root).2.length ≤ 1 + 2 * L.length * N
  | 0 => by simp [levels]
  | N + 1 => by
    have h1 := lvL_len L root N
    have h2 : levels L (N + 1) root = lvT L (levels L N root) N := by
      unfold levels
      rw [List.range_succ, List.foldl_append]
      rfl
    have h3 := lvF_len N L (levels L N root)
    rw [h2]
    unfold lvT
    rw [Nat.mul_add, Nat.mul_one]
    omega
theorem levels_succ (L : List Bx) (N root : Nat) : levels L (N + 1) root = lvT L (levels L N root) N := by
  unfold levels
  rw [List.range_succ, List.foldl_append]
  rfl
theorem lvT_take (L : List Bx) (t : Nat) (s : Lv) (i : Nat) (b : Bx) (h : L[i]? = some b) : (L.take (i + 1)).foldl (lvB t) s = lvB t ((L.take i).foldl (lvB t) s) b := by
  rw [List.take_add_one, h, List.foldl_append]
  rfl
theorem get_dec (o : Option Nat) (t : Nat) : decide ((o.map fun n => V.int (n : Int)).getD .non = V.int (t : Int)) = decide (o = some t) := by
  cases o with
  | none => rfl
  | some n =>
    by_cases h : n = t
    · subst h
      simp
    · rw [decide_eq_false (fun z => h (by have := V.int.inj z; omega)), decide_eq_false (fun z => h (Option.some.inj z))]
theorem get_scal (o : Option Nat) (t : Int) : scal ((o.map fun n => V.int (n : Int)).getD .non) (V.int t) = true := by
  cases o <;> rfl
theorem lvKV_get {H : Hp} {d : Addr} {l : List (Nat × Nat)} (h : H d = some (.dK (lvKV l))) (i : Nat) : DGet H d (.int (i : Int)) ((lkp l i).map fun n => V.int (n : Int)) := by
  rw [← lvKV_val]
  exact DGet.k (k := Sum.inl (i : Int)) h
theorem map_some {o : Option Nat} : (o.map fun n => V.int (n : Int)).isSome = o.isSome := by
  cases o <;> rfl
def sp_law_far : Sp := fun vs H Q _ => ∃ (a : Addr) (bx : Bxs) (wd r : Nat), vs = [.ref a, .int (r : Int)] ∧ TabAt H a bx ∧ GoodB bx wd ∧ r < bx.length ∧
  ∀ t d1 d2 H', Same H H' → H' t = some (.tup [.ref d1, .ref d2]) → H' d2 = some (.dK (lvKV (levels (keys bx) (bx.length + wd) r).2)) → Q (.ref t) H'
theorem cal_law_far (T : Txt K mg C) : Cal P w K mg base 2 "_law_far" sp_law_far := by
  have c_law_told := cal_law_told (P := P) (w := w) (base := base) T
  refine cal_of T.d_law_far sc_law_far (fun vs H Q E h => ?_) fun f cdv A outer s H vs Q E hr h => ?_
  · obtain ⟨a, bx, wd, r, rfl, _⟩ := h
    rfl
  · obtain ⟨a, bx, wd, r, rfl, ht, G, hrb, q⟩ := h
    have nd := sc_law_far.nd
    have hu := hu_of hr
    refine ⟨_, (pss_cons (ps_set (i := 2) nd rfl (Or.inl rfl) (pe_disp (pps_cons (pv 1) pe_int pps_nil) (by rfl) (by rfl) (fun z => by cases z) (by decide)))
(pss_cons (ps_set (i := 3) nd rfl (Or.inl rfl) pe_dnewK)
(pss_cons (ps_for PassesOwn.never rfl (pi_range1 (by rfl) T.b_range (pa_cons (pe_op op_add (pe_callB call_len_seq (by rfl) T.b_len PySem.boot_len (pa_cons (pv 0) pa_nil)) (pe_callB call_len_seq (by rfl) T.b_len PySem.boot_len (pa_cons (pe_ix ix_tup (pv 0) pe_int (fun _ _ => rfl)) pa_nil))) pa_nil)) (pg_name (i := 4) nd rfl (Or.inl rfl))
(pss_one (ps_for PassesOwn.never rfl (pi_keysNew (pe_c c_law_told hr (by decide) (by rfl) (pa_cons (pv 0) pa_nil))) (pg_tup rfl (pgs_cons (pg_name (i := 5) nd rfl (Or.inl rfl)) (pgs_cons (pg_name (i := 6) nd rfl (Or.inl rfl)) pgs_nil)))
(pss_cons (ps_if (PW.pt (pw_and (pt_cmpR op_eq (pe_dget1 hu (pv 2) (pv 5) ⟨rfl, rfl, rfl, rfl⟩) (pv 4) (nomark _)) (pw_and1 (pt_cmp (pc_dnotin hu (pv 6) (pv 3))))))
(pss_one (ps_dput hu (pv 3) (pv 6) (pe_op op_add (pv 4) pe_int) rfl))
pss_nil)
(pss_one (ps_if (PW.pt (pw_and (pt_cmpR op_eq (pe_dget1 hu (pv 3) (pv 6) ⟨rfl, rfl, rfl, rfl⟩) (pv 4) (nomark _)) (pw_and1 (pt_cmp (pc_dnotin hu (pv 5) (pv 2))))))
(pss_one (ps_dput hu (pv 2) (pv 5) (pe_op op_add (pv 4) pe_int) rfl))
pss_nil))))))
(pss_one (ps_ret (pe_tup (pa_cons (pv 2) (pa_cons (pv 3) pa_nil)))))))), ?_⟩
    obtain ⟨rs, ha, R⟩ := ht
    have hn : (rs.map V.ref).length = bx.length := by rw [List.length_map]; exact R.1
    obtain ⟨r0, row0, _, hr0, hb0, hrow0⟩ := tab_row (i := 0) R (List.getElem?_eq_getElem (by rw [hn]; exact G.h1))
    have hw0 : row0.length = wd := G.rows row0 (List.mem_of_getElem? hb0)
    have g2 := G.h2
    have g4 := G.w2
    have hLl := keys_le G
    refine fun d1 n1 => ⟨_, rfl, upd_same, [(Sum.inl (r : Int), .int 0)], rfl, (by show 1 ≤ 15; decide), ?_⟩
    refine fun d2 n2 => ?_
    generalize hH1 : upd (upd (upd H d1 (HO.dK [])) d1 (HO.dK (mergeK [] [(Sum.inl (r : Int), V.int 0)]))) d2 (HO.dK []) = H1
    obtain ⟨na1, na2⟩ := upd_no n2
    obtain ⟨na3, na4⟩ := upd_no na2
    have k1 : Same H H1 := by
      rw [← hH1]
      exact same_mut (same_mut (same_upd n1) n1) na4
    have hd1 : H1 d1 = some (.dK (lvKV (levels (keys bx) 0 r).1)) := by
      rw [← hH1, upd_ne (Ne.symm na1), upd_same]
      rfl
    have hd2 : H1 d2 = some (.dK (lvKV (levels (keys bx) 0 r).2)) := by rw [← hH1, upd_same]; rfl
    have hw0l : (row0.map optV).length = wd := by rw [List.length_map]; exact hw0
    have hsum : ((rs.map V.ref).length : Int) + ((row0.map optV).length : Int) = ((bx.length + wd : Nat) : Int) := by rw [hn, hw0l]; omega
    have hcnt : (((rs.map V.ref).length : Int) + ((row0.map optV).length : Int)).toNat = bx.length + wd := by rw [hsum]; rfl
    refine ⟨_, rfl, a, _, rfl, .inr (SqT.of (k1 _ _ ha)), _, rfl, a, _, 0, .ref r0, rfl, rfl, SqT.of (k1 _ _ ha), atI_nat (j := 0) (by rw [List.getElem?_map, hr0]; rfl), r0, _, rfl, .inr (SqT.of (k1 _ _ hrow0)), _, _, rfl, rfl, _, rfl, by rw [hsum]; omega, by rw [hsum]; omega, ?_⟩
    refine for_it walk_rg0 (fun i σ H' => ∃ y4 y5 y6, σ = [some (.ref a), some (.int (r : Int)), some (.ref d1), some (.ref d2), y4, y5, y6] ∧ Same H H' ∧ H' d1 = some (.dK (lvKV (levels (keys bx) i r).1)) ∧ H' d2 = some (.dK (lvKV (levels (keys bx) i r).2))) ⟨_, _, _, rfl, k1, hd1, hd2⟩ (fun _ _ _ _ _ => trivial) ?_ ?_
    · rintro i x σ H3 H2 hi ⟨y4, y5, y6, rfl, k2, h1, h2⟩ ⟨rfl, rfl⟩
      have hi' : i < bx.length + wd := by rw [← hcnt]; exact hi
      have hsz0 := lvL_len (keys bx) r i
      have hsz1 : 2 * (keys bx).length * i ≤ 2 * 144 * 24 := Nat.mul_le_mul (by omega) (by omega)
      rw [levels_succ]
      generalize levels (keys bx) i r = lv at h1 h2 hsz0
      refine ⟨_, rfl, a, bx, wd, rfl, ⟨rs, k2 _ _ ha, R.same k2⟩, G, fun d H4 s4 nd4 hd4 => ?_⟩
      refine ⟨d, _, rfl, hd4, fun od => ?_⟩
      have kf : ∀ b o, H2 b = some o → (upd H4 d (.frz od (.dT (toldKV (told bx))))) b = some o := fun b o e => by
        rw [upd_ne (ne_of_none e nd4)]
        exact s4 _ _ e
      refine for_it walk_keysT (fun j σ H' => ∃ y5 y6, σ = [some (.ref a), some (.int (r : Int)), some (.ref d1), some (.ref d2), some (.int (i : Int)), y5, y6] ∧ Same H H' ∧ H' d = some (.frz od (.dT (toldKV (told bx)))) ∧ H' d1 = some (.dK (lvKV (((keys bx).take j).foldl (lvB i) lv).1)) ∧ H' d2 = some (.dK (lvKV (((keys bx).take j).foldl (lvB i) lv).2)))
        ⟨_, _, rfl, fun b o e => kf _ _ (k2 _ _ e), upd_same, kf _ _ h1, kf _ _ h2⟩ (fun _ _ _ _ ⟨_, _, _, _, h, _⟩ => h) ?_ ?_
      · rintro j x σ H6 H5 hj ⟨y5, y6, rfl, k5, hz, e1, e2⟩ ⟨rfl, kk, v, qa, hkv, rfl, hqa⟩
        obtain ⟨b, hb, rfl, hbm⟩ := keys_kv hkv
        have hqa' : H5 qa = some (tupB b) := hqa
        have hlj := lvF_len i ((keys bx).take j) lv
        have hlt : ((keys bx).take j).length ≤ 144 := by rw [List.length_take]; omega
        rw [lvT_take (keys bx) i lv j b hb]
        generalize ((keys bx).take j).foldl (lvB i) lv = s at e1 e2 hlj
        have nd12 : d1 ≠ d2 := Ne.symm na1
        have ndz1 : d ≠ d1 := ne_of hz e1 (by intro z; cases z)
        have ndz2 : d ≠ d2 := ne_of hz e2 (by intro z; cases z)
        refine ⟨qa, _, rfl, SqT.of hqa', rfl, _, _, rfl, _, _, rfl, rfl, ?_⟩
        have hC := lvC_len i s b
        rw [show lvB i s b = lvR i (lvC i s b) b from rfl]
        refine ⟨_, rfl, d1, rfl, .inl ⟨_, .inl e1⟩, _, rfl, _, lvKV_get e1 b.1, _, rfl, get_scal _ _, _, rfl, ?_⟩
        rw [get_dec]
        generalize hs' : lvC i s b = s' at hC
        by_cases hA1 : lkp s.1 b.1 = some i
        · refine iteD hA1 ?_
          refine ⟨_, rfl, _, rfl, d2, _, rfl, lvKV_get e2 b.2, _, rfl, ?_⟩
          rw [map_some]
          cases hA2 : lkp s.2 b.2 with
          | none =>
            have es : s' = (s.1, s.2 ++ [(b.2, i + 1)]) := by
              rw [← hs']
              unfold lvC
              rw [if_pos ⟨hA1, hA2⟩]
            refine iteT ?_
            refine ⟨_, rfl, _, 1, rfl, rfl, _, rfl, _, rfl, d2, _, rfl, DPut.k (k := Sum.inl (b.2 : Int)) e2 (by rw [lvKV_len]; exact smallL (by omega)), ?_⟩
            have ex2 : (upd H5 d2 (.dK (putK (lvKV s.2) (Sum.inl (b.2 : Int)) (V.int ((i : Int) + 1))))) d2 = some (.dK (lvKV s'.2)) := by
              rw [upd_same, es]
              exact congrArg (fun z => some (HO.dK z)) (lvKV_put hA2)
            have ex1 : (upd H5 d2 (.dK (putK (lvKV s.2) (Sum.inl (b.2 : Int)) (V.int ((i : Int) + 1))))) d1 = some (.dK (lvKV s'.1)) := by
              rw [upd_ne nd12, es]
              exact e1
            have kx : Same H (upd H5 d2 (.dK (putK (lvKV s.2) (Sum.inl (b.2 : Int)) (V.int ((i : Int) + 1))))) := same_mut k5 na4
            have hzx : (upd H5 d2 (.dK (putK (lvKV s.2) (Sum.inl (b.2 : Int)) (V.int ((i : Int) + 1))))) d = some (.frz od (.dT (toldKV (told bx)))) := by rw [upd_ne ndz2]; exact hz
            refine ⟨_, rfl, d2, rfl, .inl ⟨_, .inl ex2⟩, _, rfl, _, lvKV_get ex2 b.2, _, rfl, get_scal _ _, _, rfl, ?_⟩
            rw [get_dec]
            by_cases hB1 : lkp s'.2 b.2 = some i
            · refine iteD hB1 ?_
              refine ⟨_, rfl, _, rfl, d1, _, rfl, lvKV_get ex1 b.1, _, rfl, ?_⟩
              rw [map_some]
              cases hB2 : lkp s'.1 b.1 with
              | none =>
                refine iteT ?_
                refine ⟨_, rfl, _, 1, rfl, rfl, _, rfl, _, rfl, d1, _, rfl, DPut.k (k := Sum.inl (b.1 : Int)) ex1 (by rw [lvKV_len]; exact smallL (by omega)), ?_⟩
                have er : lvR i s' b = (s'.1 ++ [(b.1, i + 1)], s'.2) := by
                  unfold lvR
                  rw [if_pos ⟨hB1, hB2⟩]
                rw [er]
                refine ⟨_, _, rfl, same_mut kx n1, by rw [upd_ne ndz1]; exact hzx, ?_, by rw [upd_ne (Ne.symm nd12)]; exact ex2⟩
                rw [upd_same]
                exact congrArg (fun z => some (HO.dK z)) (lvKV_put hB2)
              | some v =>
                have er : lvR i s' b = s' := by
                  unfold lvR
                  rw [if_neg (fun z => by rw [hB2] at z; cases z.2)]
                rw [er]
                exact iteF ⟨_, _, rfl, kx, hzx, ex1, ex2⟩
            · have er : lvR i s' b = s' := by
                unfold lvR
                rw [if_neg (fun z => hB1 z.1)]
              rw [er]
              exact iteND hB1 (iteF ⟨_, _, rfl, kx, hzx, ex1, ex2⟩)
          | some v =>
            have es : s' = s := by
              rw [← hs']
              unfold lvC
              rw [if_neg (fun z => by rw [hA2] at z; cases z.2)]
            have ex1 : H5 d1 = some (.dK (lvKV s'.1)) := by rw [es]; exact e1
            have ex2 : H5 d2 = some (.dK (lvKV s'.2)) := by rw [es]; exact e2
            have kx := k5
            have hzx := hz
            refine iteF ?_
            refine ⟨_, rfl, d2, rfl, .inl ⟨_, .inl ex2⟩, _, rfl, _, lvKV_get ex2 b.2, _, rfl, get_scal _ _, _, rfl, ?_⟩
            rw [get_dec]
            by_cases hB1 : lkp s'.2 b.2 = some i
            · refine iteD hB1 ?_
              refine ⟨_, rfl, _, rfl, d1, _, rfl, lvKV_get ex1 b.1, _, rfl, ?_⟩
              rw [map_some]
              cases hB2 : lkp s'.1 b.1 with
              | none =>
                refine iteT ?_
                refine ⟨_, rfl, _, 1, rfl, rfl, _, rfl, _, rfl, d1, _, rfl, DPut.k (k := Sum.inl (b.1 : Int)) ex1 (by rw [lvKV_len]; exact smallL (by omega)), ?_⟩
                have er : lvR i s' b = (s'.1 ++ [(b.1, i + 1)], s'.2) := by
                  unfold lvR
                  rw [if_pos ⟨hB1, hB2⟩]
                rw [er]
                refine ⟨_, _, rfl, same_mut kx n1, by rw [upd_ne ndz1]; exact hzx, ?_, by rw [upd_ne (Ne.symm nd12)]; exact ex2⟩
                rw [upd_same]
                exact congrArg (fun z => some (HO.dK z)) (lvKV_put hB2)
              | some v =>
                have er : lvR i s' b = s' := by
                  unfold lvR
                  rw [if_neg (fun z => by rw [hB2] at z; cases z.2)]
                rw [er]
                exact iteF ⟨_, _, rfl, kx, hzx, ex1, ex2⟩
            · have er : lvR i s' b = s' := by
                unfold lvR
                rw [if_neg (fun z => hB1 z.1)]
              rw [er]
              exact iteND hB1 (iteF ⟨_, _, rfl, kx, hzx, ex1, ex2⟩)
        · have es : s' = s := by
            rw [← hs']
            unfold lvC
            rw [if_neg (fun z => hA1 z.1)]
          have ex1 : H5 d1 = some (.dK (lvKV s'.1)) := by rw [es]; exact e1
          have ex2 : H5 d2 = some (.dK (lvKV s'.2)) := by rw [es]; exact e2
          have kx := k5
          have hzx := hz
          refine iteND hA1 (iteF ?_)
          refine ⟨_, rfl, d2, rfl, .inl ⟨_, .inl ex2⟩, _, rfl, _, lvKV_get ex2 b.2, _, rfl, get_scal _ _, _, rfl, ?_⟩
          rw [get_dec]
          by_cases hB1 : lkp s'.2 b.2 = some i
          · refine iteD hB1 ?_
            refine ⟨_, rfl, _, rfl, d1, _, rfl, lvKV_get ex1 b.1, _, rfl, ?_⟩
            rw [map_some]
            cases hB2 : lkp s'.1 b.1 with
            | none =>
              refine iteT ?_
              refine ⟨_, rfl, _, 1, rfl, rfl, _, rfl, _, rfl, d1, _, rfl, DPut.k (k := Sum.inl (b.1 : Int)) ex1 (by rw [lvKV_len]; exact smallL (by omega)), ?_⟩
              have er : lvR i s' b = (s'.1 ++ [(b.1, i + 1)], s'.2) := by
                unfold lvR
                rw [if_pos ⟨hB1, hB2⟩]
              rw [er]
              refine ⟨_, _, rfl, same_mut kx n1, by rw [upd_ne ndz1]; exact hzx, ?_, by rw [upd_ne (Ne.symm nd12)]; exact ex2⟩
              rw [upd_same]
              exact congrArg (fun z => some (HO.dK z)) (lvKV_put hB2)
            | some v =>
              have er : lvR i s' b = s' := by
                unfold lvR
                rw [if_neg (fun z => by rw [hB2] at z; cases z.2)]
              rw [er]
              exact iteF ⟨_, _, rfl, kx, hzx, ex1, ex2⟩
          · have er : lvR i s' b = s' := by
              unfold lvR
              rw [if_neg (fun z => hB1 z.1)]
            rw [er]
            exact iteND hB1 (iteF ⟨_, _, rfl, kx, hzx, ex1, ex2⟩)
      · rintro σ H5 ⟨y5, y6, rfl, k5, hz, e1, e2⟩
        rw [keys_len, List.take_of_length_le (Nat.le_refl _)] at e1 e2
        exact ⟨_, _, _, rfl, k5, e1, e2⟩
    · rintro σ H2 ⟨y4, y5, y6, rfl, k2, h1, h2⟩
      rw [hcnt] at h1 h2
      refine ⟨_, rfl, _, rfl, small (by show 2 ≤ 100000; decide), fun t nt => ?_⟩
      exact q t d1 d2 _ (same_new k2 nt) upd_same (same_upd nt _ _ h2)
end K15
end
section
set_option maxRecDepth 100000
set_option maxHeartbeats 4000000
namespace K15
open PySem PySem.Spec PyProof.Rows L2
variable {P : Program} {w : World} {K : PySem.W.Frag} {mg : Str → Option Value} {base : Heap} {C : Addr}
theorem unlock_same {Ha Hb : Hp} {d : Addr} {u : HO} (h : ∀ b o, Ha b = some o → b ≠ d → Hb b = some o) (hd : Ha d = some u) : Same Ha (upd Hb d u) := fun b o e => by
  by_cases hb : b = d
  · subst hb
    rw [upd_same, ← e, hd]
  · rw [upd_ne hb]
    exact h b o e hb
theorem lock_keep {Ha : Hp} {d : Addr} {o' : HO} : ∀ b o, Ha b = some o → b ≠ d → (upd Ha d o') b = some o := fun b o e hb => by
  rw [upd_ne hb]
  exact e
def Nxt (r : Nat) (pth : List Bx) (b : Bx) : Prop := (pth = [] → b.1 = r) ∧ ∀ (n : Nat) z, pth.length = n + 1 → pth[n]? = some z → z ≠ b ∧ (if n % 2 = 0 then z.2 = b.2 else z.1 = b.1)
theorem Steps.snoc {L pth : List Bx} {r : Nat} {b : Bx} (h : Steps L pth) (hb : b ∈ L) (n : Nxt r pth b) : Steps L (pth ++ [b]) := by
  have last : ∀ (i : Nat) (x y : Bx), (pth ++ [b])[i]? = some x → (pth ++ [b])[i + 1]? = some y → (pth[i]? = some x ∧ pth[i + 1]? = some y) ∨ (pth.length = i + 1 ∧ pth[i]? = some x ∧ y = b) := by
    intro i x y h1 h2
    by_cases hi : i + 1 < pth.length
    · left
      rw [List.getElem?_append_left (by omega)] at h1
      rw [List.getElem?_append_left hi] at h2
      exact ⟨h1, h2⟩
    · right
      have hl : i + 1 < (pth ++ [b]).length := (List.getElem?_eq_some_iff.mp h2).1
      rw [List.length_append] at hl
      simp only [List.length_cons, List.length_nil] at hl
      have he : pth.length = i + 1 := by omega
      rw [List.getElem?_append_left (by omega)] at h1
      rw [List.getElem?_append_right (by omega), show i + 1 - pth.length = 0 by omega] at h2
      simp at h2
      exact ⟨he, h1, h2.symm⟩
  refine ⟨fun x hx => ?_, fun i x y h1 h2 => ?_, fun i x y h1 h2 => ?_⟩
  · rcases List.mem_append.mp hx with hx | hx
    · exact h.mem x hx
    · rw [List.mem_singleton] at hx; subst hx; exact hb
  · rcases last i x y h1 h2 with ⟨g1, g2⟩ | ⟨g1, g2, rfl⟩
    · exact h.ne i x y g1 g2
    · exact (n.2 i x g1 g2).1
  · rcases last i x y h1 h2 with ⟨g1, g2⟩ | ⟨g1, g2, rfl⟩
    · exact h.alt i x y g1 g2
    · exact (n.2 i x g1 g2).2
theorem Steps.nil (L : List Bx) : Steps L [] := ⟨(fun b hb => by cases hb), (fun i x y h => by simp at h), (fun i x y h => by simp at h)⟩
/-- the boxes one may go on with -/
def Going (H : Hp) (g : Addr) (bx : Bxs) (r : Nat) (pth : List Bx) : Prop := ∃ gs : List Addr, H g = some (.lst (gs.map V.ref)) ∧ gs.length ≤ 144 ∧ ∀ x ∈ gs, ∃ b, H x = some (tupB b) ∧ b ∈ keys bx ∧ Nxt r pth b
theorem Going.to {H H' : Hp} {g : Addr} {bx : Bxs} {r : Nat} {pth : List Bx} (h : Going H g bx r pth) (s : ∀ xs, H g = some (.lst xs) → H' g = some (.lst xs)) (tp : ∀ a xs, H a = some (.tup xs) → H' a = some (.tup xs)) : Going H' g bx r pth := by
  obtain ⟨gs, e, l, h⟩ := h
  exact ⟨gs, s _ e, l, fun x hx => let ⟨b, e, m, n⟩ := h x hx; ⟨b, tp _ _ e, m, n⟩⟩
structure WkAt (p c : Addr) (H H' : Hp) (bx : Bxs) (r : Nat) (d f g : Addr) (pth : List Bx) : Prop where
  px : Px p c H H'
  hd : H' d = some (.dT (toldKV (told bx)))
  fd : ∃ as : List Addr, H' f = some (.lst (as.map V.ref)) ∧ WayAt H' as pth
  st : Steps (keys bx) pth
  fst : ∀ b, pth[0]? = some b → b.1 = r
  go : Going H' g bx r pth
  gn : H g = none
def sp_law_walk : Sp := fun vs H Q _ => ∃ (p c a : Addr) (bx : Bxs) (wd r m : Nat), vs = [.ref p, .ref a, .int (r : Int), .int (m : Int)] ∧ Pool H p c ∧ TabAt H a bx ∧ GoodB bx wd ∧ m ≤ 50 ∧
  ∀ t pth H', Px p c H H' → WayT H' t pth → Steps (keys bx) pth → (∀ b, pth[0]? = some b → b.1 = r) → pth.length ≤ m → Q (.ref t) H'
theorem cal_law_walk (T : Txt K mg C) : Cal P w K mg base 2 "_law_walk" sp_law_walk := by
  have c_law_told := cal_law_told (P := P) (w := w) (base := base) T
  have c_law_draw := cal_law_draw (P := P) (w := w) (base := base) T
  refine cal_of T.d_law_walk sc_law_walk (fun vs H Q E h => ?_) fun f cdv A outer s H vs Q E hr h => ?_
  · obtain ⟨p, c, a, bx, wd, r, m, rfl, _⟩ := h
    rfl
  · obtain ⟨p, c, a, bx, wd, r, m, rfl, hP, ht, G, hm, q⟩ := h
    have nd := sc_law_walk.nd
    refine ⟨_, (pss_cons (ps_set (i := 4) nd rfl (Or.inl rfl) (pe_c c_law_told hr (by decide) (by rfl) (pa_cons (pv 1) pa_nil)))
(pss_cons (ps_set (i := 5) nd rfl (Or.inr rfl) (pe_lst pa_nil))
(pss_cons (ps_lock (ps_setLc (i := 6) (own := [("_law_box", 9)]) rfl nd rfl rfl (sw_true rfl rfl rfl (by decide +kernel)) (pi_keys (pv 4)) (blkOk_by (own := [("_law_box", 9)]) (N := N_law_walk) (sc := defScope s_law_walk) (by decide +kernel)) (fun _ _ _ _ _ => (pg_name (i := 9) nd rfl (Or.inl rfl))) (fun _ _ _ _ _ => (pts_one (pt_cmpR op_eq (pe_ix (ix_tupB (K := K) (by rfl)) (pv 9) pe_int (fun _ _ => rfl)) (pv 2) (nomark _)))) (fun _ _ _ _ _ => (pv 9))))
(pss_cons (ps_for PassesOwn.never rfl (pi_range1 (by rfl) T.b_range (pa_cons (pv 3) pa_nil)) (pg_name (i := 7) nd rfl (Or.inl rfl))
(pss_cons (ps_if (pt_cmpR op_eq (pe_callB call_len_seq (by rfl) T.b_len PySem.boot_len (pa_cons (pv 6) pa_nil)) pe_int (nomark _))
(pss_one ps_break)
pss_nil)
(pss_cons (ps_expr (pe_bm PySem.F.plainAttrs_list PySem.F.slot_list_append PySem.F.type_list_append mt_append (pv 5) (pa_cons (pe_ix ix_list (pv 6) (pe_c c_law_draw hr (by decide) (by rfl) (pa_cons (pv 0) (pa_cons (pe_callB call_len_seq (by rfl) T.b_len PySem.boot_len (pa_cons (pv 6) pa_nil)) pa_nil))) (fun _ _ => rfl)) pa_nil)))
(pss_cons (ps_set (i := 8) nd rfl (Or.inr rfl) (pe_op op_sub pe_int (pe_op op_mod (pe_callTy call_int1 (by rfl) T.b_int (by decide +kernel) (pa_cons (pv 7) pa_nil)) pe_int)))
(pss_one (ps_lock (ps_setLc (i := 6) (own := [("_law_box", 9)]) rfl nd rfl rfl (sw_true rfl rfl rfl (by decide +kernel)) (pi_keys (pv 4)) (blkOk_by (own := [("_law_box", 9)]) (N := N_law_walk) (sc := defScope s_law_walk) (by decide +kernel)) (fun _ _ _ _ _ => (pg_name (i := 9) nd rfl (Or.inl rfl))) (fun _ _ _ _ _ => (pts_one (PW.pt (pw_and (pt_cmpR op_eq (pe_ix (ix_tupB (K := K) (by rfl)) (pv 9) (pv 8) (fun _ _ => rfl)) (pe_ix (ix_tupB (K := K) (by rfl)) (pe_ix (ix_listB (K := K) (by rfl)) (pv 5) (pe_un un_neg pe_int) (fun _ _ => rfl)) (pv 8) (fun _ _ => rfl)) (nomark _)) (pw_and1 (pt_cmpR (op_neDB (K := K) (by rfl) hr.units) (pv 9) (pe_ix (ix_listB (K := K) (by rfl)) (pv 5) (pe_un un_neg pe_int) (fun _ _ => rfl)) (nomark _))))))) (fun _ _ _ _ _ => (pv 9)))))))))
(pss_one (ps_ret (pe_callTy call_tuple_of (by rfl) T.b_tuple (by decide +kernel) (pa_cons (pv 5) pa_nil)))))))), ?_⟩
    have hLl := keys_le G
    refine ⟨_, rfl, a, bx, wd, rfl, ht, G, fun d H1 s1 nd0 hd1 => ?_⟩
    refine ⟨Nat.zero_le _, fun fo nf => ?_⟩
    have ndp := hP.fresh nd0
    have nf0 := s1.free nf
    have nfp := hP.fresh nf0
    have ndf : d ≠ fo := ne_of_none hd1 nf
    have s2 : Same H (upd H1 fo (.lst [])) := same_new s1 nf
    have hd2 : (upd H1 fo (.lst [])) d = some (.dT (toldKV (told bx))) := by rw [upd_ne ndf]; exact hd1
    have hf2 : (upd H1 fo (.lst [])) fo = some (.lst []) := upd_same
    generalize upd H1 fo (HO.lst []) = H2 at s2 hd2 hf2
    -- the first boxes
    refine ⟨d, _, hd2, trivial, fun od => ⟨_, rfl, d, od, rfl, .inr ⟨_, upd_same, fun D hD => ?_⟩⟩⟩
    have kl : ∀ b o, H2 b = some o → b ≠ d → (upd H2 d (.frz od (.dT (toldKV (told bx))))) b = some o := lock_keep
    have nDd : D ≠ d := fun z => by subst z; rw [upd_same] at hD; cases hD
    have hD2 : H2 D = none := by rw [upd_ne nDd] at hD; exact hD
    have hD0 := s2.free hD2
    refine lc_it walk_keysT (fun i H' => (∀ b o, H2 b = some o → b ≠ d → H' b = some o) ∧ H' d = some (.frz od (.dT (toldKV (told bx)))) ∧ ∃ gs : List Addr, gs.length ≤ i ∧ H' D = some (.lst (gs.map V.ref)) ∧ ∀ x ∈ gs, ∃ b, H' x = some (tupB b) ∧ b ∈ keys bx ∧ b.1 = r)
      ⟨fun b o e hb => same_upd hD _ _ (kl b o e hb), by rw [upd_ne (Ne.symm nDd), upd_same], [], Nat.zero_le _, upd_same, fun _ z => by cases z⟩ (fun _ _ _ h => h.2.1) (fun i x H4 H3 hi hPi hY => ?_) fun H3 hPi => ?_
    · obtain ⟨k3, hz, gs, hgl, hD3, hg⟩ := hPi
      obtain ⟨rfl, kk, v, qa, hkv, rfl, hqa⟩ := hY
      obtain ⟨b, hb, rfl, hbm⟩ := keys_kv hkv
      have hqa' : H3 qa = some (tupB b) := hqa
      have hil : i < (toldKV (told bx)).length := hi
      rw [keys_len] at hil
      refine ⟨rfl, ?_⟩
      refine ⟨_, rfl, qa, _, 0, _, rfl, rfl, SqT.of hqa', atI_nat (j := 0) rfl, _, rfl, rfl, _, rfl, ?_⟩
      by_cases hbr : b.1 = r
      · refine iteD (congrArg (fun z : Nat => V.int (z : Int)) hbr) ⟨_, rfl, _, hD3, by rw [List.length_map]; exact smallL (by omega), fun b' o e hb' => ?_, by rw [upd_ne (Ne.symm nDd)]; exact hz, gs ++ [qa], by simp [hgl], by rw [upd_same, List.map_append]; rfl, fun x hx => ?_⟩
        · rw [upd_ne (ne_of_none e hD2)]
          exact k3 b' o e hb'
        · rcases List.mem_append.mp hx with hx | hx
          · obtain ⟨b', e, m1, m2⟩ := hg x hx
            exact ⟨b', by rw [upd_ne (ne_of e hD3 (by intro z; cases z))]; exact e, m1, m2⟩
          · rw [List.mem_singleton] at hx; subst hx
            exact ⟨b, by rw [upd_ne (ne_of hqa' hD3 (by intro z; cases z))]; exact hqa', hbm, hbr⟩
      · exact iteND (fun z => hbr (Int.ofNat.inj (V.int.inj z))) ⟨k3, hz, gs, by omega, hD3, hg⟩
    · obtain ⟨k3, hz, gs, hgl, hD3, hg⟩ := hPi
      rw [keys_len] at hgl
      refine ⟨hz, ?_⟩
      have s4 : Same H2 (upd H3 d (.dT (toldKV (told bx)))) := unlock_same k3 hd2
      have hw4 : WkAt p c H (upd H3 d (.dT (toldKV (told bx)))) bx r d fo D [] := by
        refine ⟨(Px.of_same hP s2).same s4, upd_same, ⟨[], s4 _ _ hf2, WayAt.nil _⟩, Steps.nil _, fun b hb => by simp at hb, ⟨gs, by rw [upd_ne nDd]; exact hD3, by omega, fun x hx => ?_⟩, hD0⟩
        obtain ⟨b, e, m1, m2⟩ := hg x hx
        exact ⟨b, by rw [upd_ne (ne_of e hz (by intro z; cases z))]; exact e, m1, fun _ => m2, fun n z hn => by simp at hn⟩
      generalize upd H3 d (HO.dT (toldKV (told bx))) = H4 at hw4
      have fin : ∀ (H5 : Hp) (g : Addr) (pth : List Bx), WkAt p c H H5 bx r d fo g pth → pth.length ≤ m → ∃ as : List Addr, H5 fo = some (.lst (as.map V.ref)) ∧ ∀ t, H5 t = none → Q (.ref t) (upd H5 t (.tup (as.map V.ref))) := fun H5 g pth W hl => by
        obtain ⟨as, e, hW⟩ := W.fd
        exact ⟨as, e, fun t nt => q t pth _ (W.px.new nt) ⟨as, upd_same, hW.same (same_upd nt)⟩ W.st W.fst hl⟩
      refine ⟨_, rfl, _, rfl, by omega, by omega, ?_⟩
      refine for_it walk_rg0 (fun i σ H' => ∃ (g : Addr) (y7 y8 : Option V) (pth : List Bx), pth.length = i ∧ σ = [some (.ref p), some (.ref a), some (.int (r : Int)), some (.int (m : Int)), some (.ref d), some (.ref fo), some (.ref g), y7, y8, none] ∧ WkAt p c H H' bx r d fo g pth) ⟨D, _, _, [], rfl, rfl, hw4⟩ (fun _ _ _ _ _ => trivial) ?_ ?_
      · rintro i x σ H6 H5 hi ⟨g, y7, y8, pth, hpl, rfl, W⟩ ⟨rfl, rfl⟩
        have hi' : i < m := hi
        obtain ⟨gs, hg, hgl, hgo⟩ := W.go
        obtain ⟨as, hfo, hW⟩ := W.fd
        have ngp := hP.fresh W.gn
        refine ⟨_, rfl, g, _, rfl, .inl (SqL.of hg), rfl, _, rfl, ite2 (fun _ => ?_) fun e0 => ?_⟩
        · obtain ⟨as', hfo', hq'⟩ := fin H5 g pth W (by omega)
          exact ⟨_, rfl, fo, _, rfl, .inl ⟨SqL.of hfo', hq'⟩⟩
        · have hgpos : 0 < gs.length := by
            rcases Nat.eq_zero_or_pos gs.length with z | z
            · exact absurd (decide_eq_true (by rw [List.length_map, z]; rfl)) e0
            · exact z
          have hgml : (gs.map V.ref).length = gs.length := List.length_map ..
          refine ⟨_, rfl, .inl ⟨rfl, _, .inl (.inl hfo)⟩, _, rfl, _, rfl, _, rfl, g, _, rfl, .inl (SqL.of hg), p, c, _, rfl, W.px.pool, by omega, by omega, fun e H7 g0 g1 x7 => ?_⟩
          obtain ⟨v, hv, hv2⟩ := atI_in g0 g1
          rw [List.getElem?_map, Option.map_eq_some_iff] at hv2
          obtain ⟨xz, hxz, rfl⟩ := hv2
          obtain ⟨z, hz, hzk, hzn⟩ := hgo xz (List.mem_of_getElem? hxz)
          have hg7 := x7.keep _ _ hg ngp.1 ngp.2
          have hfo7 := x7.keep _ _ hfo nfp.1 nfp.2
          have hz7 := x7.tup W.px.pool hz
          have hd7 := x7.keep _ _ W.hd ndp.1 ndp.2
          have hasl : (as.map V.ref).length = i := by rw [List.length_map, hW.1, hpl]
          refine ⟨g, _, e, _, rfl, rfl, SqL.of hg7, hv, fo, _, _, rfl, rfl, hfo7, by rw [hasl]; exact smallL (by omega), ?_⟩
          refine ⟨_, rfl, .inl ⟨_, rfl, _, 2, rfl, rfl, (by decide : (0 : Int) < 2), 1, _, rfl, rfl, ?_⟩⟩
          -- the way so far, a box longer
          have nfd : fo ≠ d := Ne.symm ndf
          have X8 : Px p c H (upd H7 fo (.lst (as.map V.ref ++ [.ref xz]))) := (W.px.trans x7).mut nf0 nfp.1 nfp.2
          have hd8 : (upd H7 fo (.lst (as.map V.ref ++ [.ref xz]))) d = some (.dT (toldKV (told bx))) := by rw [upd_ne ndf]; exact hd7
          have hf8 : (upd H7 fo (.lst (as.map V.ref ++ [.ref xz]))) fo = some (.lst ((as ++ [xz]).map V.ref)) := by rw [upd_same, List.map_append]; rfl
          have up8 : ∀ c' xs, H7 c' = some (.tup xs) → (upd H7 fo (.lst (as.map V.ref ++ [.ref xz]))) c' = some (.tup xs) := fun c' xs e => by rw [upd_ne (ne_of e hfo7 (by intro z; cases z))]; exact e
          have hz8 := up8 _ _ hz7
          have hW8 : WayAt (upd H7 fo (.lst (as.map V.ref ++ [.ref xz]))) (as ++ [xz]) (pth ++ [z]) := by
            refine WayAt.snoc ⟨hW.1, fun j a' b' e1 e2 => up8 _ _ (x7.tup W.px.pool (hW.2 j a' b' e1 e2))⟩ hz8
          have st8 : Steps (keys bx) (pth ++ [z]) := W.st.snoc hzk hzn
          have fst8 : ∀ b, (pth ++ [z])[0]? = some b → b.1 = r := fun b hb => by
            cases pth with
            | nil =>
              simp at hb
              subst hb
              exact hzn.1 rfl
            | cons y ys =>
              rw [List.getElem?_append_left (by simp)] at hb
              exact W.fst b hb
          generalize upd H7 fo (HO.lst (as.map V.ref ++ [V.ref xz])) = H8 at X8 hd8 hf8 hz8 hW8
          refine ⟨d, _, hd8, trivial, fun od2 => ⟨_, rfl, d, od2, rfl, .inr ⟨_, upd_same, fun D2 hD2 => ?_⟩⟩⟩
          have hk : (1 - (i : Int) % 2) = ((1 - i % 2 : Nat) : Int) := by omega
          have hk2 : 1 - i % 2 < 2 := by omega
          have nDd2 : D2 ≠ d := fun z => by subst z; rw [upd_same] at hD2; cases hD2
          have hD82 : H8 D2 = none := by rw [upd_ne nDd2] at hD2; exact hD2
          have hD20 := X8.none hD82
          have hlastF : ∀ {H' : Hp}, H' fo = some (.lst ((as ++ [xz]).map V.ref)) → H' fo = some (.lst (as.map V.ref ++ [.ref xz])) := fun {H'} h => by rw [h, List.map_append]; rfl
          refine lc_it walk_keysT (fun j H' => (∀ b o, H8 b = some o → b ≠ d → H' b = some o) ∧ H' d = some (.frz od2 (.dT (toldKV (told bx)))) ∧ ∃ gs : List Addr, gs.length ≤ j ∧ H' D2 = some (.lst (gs.map V.ref)) ∧ ∀ x ∈ gs, ∃ b, H' x = some (tupB b) ∧ b ∈ keys bx ∧ z ≠ b ∧ (if i % 2 = 0 then z.2 = b.2 else z.1 = b.1))
            ⟨fun b o e hb => same_upd hD2 _ _ (lock_keep b o e hb), by rw [upd_ne (Ne.symm nDd2), upd_same], [], Nat.zero_le _, upd_same, fun _ z => by cases z⟩ (fun _ _ _ h => h.2.1) (fun j x H10 H9 hj hPj hY => ?_) fun H9 hPj => ?_
          · obtain ⟨k9, hz9, gs9, hgl9, hD9, hg9⟩ := hPj
            obtain ⟨rfl, kk, v, qa, hkv, rfl, hqa⟩ := hY
            obtain ⟨b, hb, rfl, hbm⟩ := keys_kv hkv
            have hqa' : H9 qa = some (tupB b) := hqa
            have hjl : j < (toldKV (told bx)).length := hj
            rw [keys_len] at hjl
            have hfo9 := hlastF (k9 _ _ hf8 nfd)
            have nxd : xz ≠ d := ne_of hz8 hd8 (by intro z; cases z)
            have hz9' := k9 _ _ hz8 nxd
            refine ⟨rfl, ?_⟩
            refine ⟨_, rfl, _, rfl, qa, _, _, _, rfl, rfl, SqT.of hqa', by rw [hk]; exact atI_nat (bx_get b _ hk2), _, rfl, 1, rfl, fo, _, -1, _, rfl, rfl, SqL.of hfo9, atI_last _ _, _, rfl, xz, _, _, _, rfl, rfl, SqT.of hz9', by rw [hk]; exact atI_nat (bx_get z _ hk2), rfl, _, rfl, ?_⟩
            have skip : (∀ b o, H8 b = some o → b ≠ d → H9 b = some o) ∧ H9 d = some (.frz od2 (.dT (toldKV (told bx)))) ∧ ∃ gs : List Addr, gs.length ≤ j + 1 ∧ H9 D2 = some (.lst (gs.map V.ref)) ∧ ∀ x ∈ gs, ∃ b, H9 x = some (tupB b) ∧ b ∈ keys bx ∧ z ≠ b ∧ (if i % 2 = 0 then z.2 = b.2 else z.1 = b.1) := ⟨k9, hz9, gs9, by omega, hD9, hg9⟩
            by_cases hsame : (if 1 - i % 2 = 0 then b.1 else b.2) = (if 1 - i % 2 = 0 then z.1 else z.2)
            · refine iteD (congrArg (fun z : Nat => V.int (z : Int)) hsame) ?_
              refine ⟨_, rfl, _, rfl, 1, rfl, fo, _, -1, _, rfl, rfl, SqL.of hfo9, atI_last _ _, _, _, dp_bx hqa', dp_bx hz9', shaped_bx _, shaped_bx _, _, rfl, ?_⟩
              rw [eqv_bx]
              by_cases hbz : b = z
              · rw [decide_eq_true hbz]
                exact iteF skip
              · rw [decide_eq_false hbz]
                refine iteT ⟨_, rfl, _, hD9, by rw [List.length_map]; exact smallL (by omega), fun b' o e hb' => ?_, by rw [upd_ne (Ne.symm nDd2)]; exact hz9, gs9 ++ [qa], by simp [hgl9], by rw [upd_same, List.map_append]; rfl, fun x hx => ?_⟩
                · rw [upd_ne (ne_of_none e hD82)]
                  exact k9 b' o e hb'
                · rcases List.mem_append.mp hx with hx | hx
                  · obtain ⟨b', e, m1, m2⟩ := hg9 x hx
                    exact ⟨b', by rw [upd_ne (ne_of e hD9 (by intro z; cases z))]; exact e, m1, m2⟩
                  · rw [List.mem_singleton] at hx; subst hx
                    refine ⟨b, by rw [upd_ne (ne_of hqa' hD9 (by intro z; cases z))]; exact hqa', hbm, Ne.symm hbz, ?_⟩
                    by_cases h0 : i % 2 = 0
                    · rw [if_neg (by omega), if_neg (by omega)] at hsame
                      rw [if_pos h0]
                      exact hsame.symm
                    · rw [if_pos (by omega), if_pos (by omega)] at hsame
                      rw [if_neg h0]
                      exact hsame.symm
            · exact iteND (fun zz => hsame (Int.ofNat.inj (V.int.inj zz))) (iteF skip)
          · obtain ⟨k9, hz9, gs9, hgl9, hD9, hg9⟩ := hPj
            rw [keys_len] at hgl9
            refine ⟨hz9, ?_⟩
            have s10 : Same H8 (upd H9 d (.dT (toldKV (told bx)))) := unlock_same k9 hd8
            refine ⟨D2, _, _, pth ++ [z], by simp [hpl], rfl, X8.same s10, upd_same, ⟨as ++ [xz], s10 _ _ hf8, hW8.same s10⟩, st8, fst8, ⟨gs9, by rw [upd_ne nDd2]; exact hD9, by omega, fun x hx => ?_⟩, hD20⟩
            obtain ⟨b, e, m1, m2, m3⟩ := hg9 x hx
            refine ⟨b, by rw [upd_ne (ne_of e hz9 (by intro z; cases z))]; exact e, m1, fun hnil => by simp at hnil, fun n y hn hy => ?_⟩
            have hni : n = i := by
              rw [List.length_append] at hn
              simp only [List.length_cons, List.length_nil] at hn
              omega
            subst hni
            rw [← hpl, List.getElem?_append_right (Nat.le_refl _), Nat.sub_self] at hy
            simp at hy
            subst hy
            exact ⟨m2, m3⟩
      · rintro σ H5 ⟨g, y7, y8, pth, hpl, rfl, W⟩
        have hpl' : pth.length = m := hpl
        obtain ⟨as', hfo', hq'⟩ := fin H5 g pth W (by omega)
        exact ⟨_, rfl, fo, _, rfl, .inl ⟨SqL.of hfo', hq'⟩⟩
end K15
end
section
set_option maxRecDepth 100000
set_option maxHeartbeats 4000000
namespace K15
open PySem PySem.Spec PyProof.Rows L2
variable {P : Program} {w : World} {K : PySem.W.Frag} {mg : Str → Option Value} {base : Heap} {C : Addr}
def sp_law_right (C : Addr) : Sp := fun vs H Q _ => ∃ (a p d : Addr) (bx : Bxs) (wd r c : Nat), vs = [.ref a, .ref p, .int (r : Int), .int (c : Int), .ref d] ∧ TabAt H a bx ∧ TblAt C H p bx wd ∧ GoodB bx wd ∧ r < bx.length ∧ c < wd ∧ H d = some (.dK (lvKV (levels (keys bx) (bx.length + wd) r).2)) ∧ ∀ H', Same H H' → Q (.bl true) H'
theorem cal_law_right (T : Txt K mg C) : Cal P w K mg base 7 "_law_right" (sp_law_right C) := by
  have c_way_between := cal_way_between (P := P) (w := w) (base := base) T
  have c_law_is_way := cal_law_is_way (P := P) (w := w) (base := base) T
  have c_law_flag := cal_law_flag (P := P) (w := w) (base := base) T
  have c_is_way := cal_is_way (P := P) (w := w) (base := base) T
  have c_by_way := cal_by_way (P := P) (w := w) (base := base) T
  have c_law_tells := cal_law_tells (P := P) (w := w) (base := base) T
  refine cal_of T.d_law_right sc_law_right (fun vs H Q E h => ?_) fun f cdv A outer s H vs Q E hr h => ?_
  · obtain ⟨a, p, d, bx, wd, r, c, rfl, _⟩ := h
    rfl
  · obtain ⟨a, p, d, bx, wd, r, c, rfl, ht, htb, G, h1, h2, hd, q⟩ := h
    have nd := sc_law_right.nd
    have hu := hu_of hr
    refine ⟨_, (pss_cons (ps_set (i := 5) nd rfl (Or.inl rfl) (pe_c c_way_between hr (by decide) (by rfl) (pa_cons (pv 1) (pa_cons (pv 2) (pa_cons (pv 3) pa_nil)))))
(pss_cons (ps_if (pt_cmpR op_ne (pe_cmp (pc_isN (pv 5)) rfl) (pe_cmp (pc_dnotin hu (pv 3) (pv 4)) rfl) (nomark _))
(pss_one (ps_ret pe_bl))
pss_nil)
(pss_cons (ps_if (pt_cmp (pc_isN (pv 5)))
(pss_one (ps_ret pe_bl))
pss_nil)
(pss_cons (ps_if (PW.pt (pw_or (pt_not (pt_val (pe_c c_law_is_way hr (by decide) (by rfl) (pa_cons (pv 0) (pa_cons (pv 2) (pa_cons (pv 3) (pa_cons (pv 5) pa_nil))))))) (pw_or1 (pt_cmpR op_ne (pe_callB call_len_seq (by rfl) T.b_len PySem.boot_len (pa_cons (pv 5) pa_nil)) (pe_dget hu (pv 4) (pv 3) (fun _ _ => rfl)) (nomark _)))))
(pss_one (ps_ret pe_bl))
pss_nil)
(pss_cons (ps_if (PW.pt (pw_or (pt_not (pt_val (pe_c c_law_flag hr (by decide) (by rfl) (pa_cons (pe_c c_is_way hr (by decide) (by rfl) (pa_cons (pv 1) (pa_cons (pv 2) (pa_cons (pv 3) (pa_cons (pv 5) pa_nil))))) (pa_cons pe_bl pa_nil))))) (pw_or1 (pt_cmpR (op_neD hr.units) (pe_c c_way_between hr (by decide) (by rfl) (pa_cons (pv 1) (pa_cons (pv 2) (pa_cons (pv 3) pa_nil)))) (pv 5) (nomark _)))))
(pss_one (ps_ret pe_bl))
pss_nil)
(pss_one (ps_ret (pe_cmpR op_eq (pe_c c_by_way hr (by decide) (by rfl) (pa_cons (pv 1) (pa_cons (pv 5) pa_nil))) (pe_c c_law_tells hr (by decide) (by rfl) (pa_cons (pv 0) (pa_cons (pv 5) pa_nil))) (nomark _))))))))), ?_⟩
    have g2 := G.h2
    have g4 := G.w2
    refine ⟨_, rfl, _, rfl, _, rfl, p, bx, wd, r, c, rfl, htb, G, h1, h2, fun v H1 s1 hv => ?_⟩
    refine ⟨_, rfl, _, rfl, _, rfl, d, _, rfl, lvKV_get (s1 _ _ hd) c, rfl, _, rfl, ?_⟩
    rw [map_some]
    cases hn : wayN (keys bx) (bx.length + wd) r c with
    | none =>
      rw [hn] at hv
      obtain rfl : v = .non := hv
      rw [way_none (keys_lt G) h1 hn]
      rw [show (!decide (V.bl (decide (V.non = V.non)) = V.bl !(none : Option Nat).isSome)) = false by simp]
      refine iteF ?_
      refine ⟨_, rfl, _, rfl, ?_⟩
      rw [decide_eq_true (show V.non = V.non from rfl)]
      exact iteT (q H1 s1)
    | some pth =>
      rw [hn] at hv
      obtain ⟨t, rfl, hW⟩ := hv
      obtain ⟨lk, IW, hle, _⟩ := way_some (keys_lt G) h1 hn
      rw [lk]
      rw [show (!decide (V.bl (decide (V.ref t = V.non)) = V.bl !(some pth.length).isSome)) = false by simp]
      refine iteF ?_
      refine ⟨_, rfl, _, rfl, ?_⟩
      rw [decide_eq_false (show ¬ V.ref t = V.non from fun z => by cases z)]
      refine iteF ?_
      refine ⟨_, rfl, _, rfl, _, rfl, _, rfl, a, t, bx, wd, r, c, pth, rfl, ht.same s1, G, hW, IW, by omega, fun H2 s2 => ⟨true, rfl, iteF ?_⟩⟩
      have s12 := s1.trans s2
      have hW2 := hW.same s2
      obtain ⟨as, hwt, hWa⟩ := id hW2
      have dg : DGet H2 d (.int (c : Int)) (some (.int (pth.length : Int))) := by
        have := lvKV_get (s12 _ _ hd) c
        rw [lk] at this
        exact this
      refine ⟨_, rfl, t, _, rfl, .inr (SqT.of hwt), _, rfl, _, rfl, d, _, rfl, dg, rfl, _, rfl, ?_⟩
      rw [List.length_map, hWa.1, decide_eq_true (show V.int (pth.length : Int) = V.int (pth.length : Int) from rfl)]
      refine iteF ?_
      refine ⟨_, rfl, _, rfl, _, rfl, _, rfl, p, t, bx, wd, r, c, pth, rfl, htb.same s12, G, h1, h2, hW2, IW, by omega, fun H3 s3 => ⟨rfl, true, rfl, iteF ?_⟩⟩
      have s13 := s12.trans s3
      refine ⟨_, rfl, _, rfl, _, rfl, p, bx, wd, r, c, rfl, htb.same s13, G, h1, h2, fun v2 H4 s4 hv2 => ?_⟩
      rw [hn] at hv2
      obtain ⟨t2, rfl, hW4⟩ := hv2
      have s14 := s13.trans s4
      have hWt4 := (hW2.same s3).same s4
      refine ⟨_, rfl, _, _, dp_way hW4, dp_way hWt4, shaped_way _, shaped_way _, _, rfl, ?_⟩
      rw [eqv_way]
      refine iteF ?_
      refine ⟨_, rfl, _, rfl, p, t, bx, wd, pth, rfl, htb.same s14, G, hWt4, IW.steps, IW.odd, by omega, fun H5 s5 => ?_⟩
      refine ⟨_, rfl, _, rfl, a, t, bx, wd, pth, rfl, ht.same (s14.trans s5), G, hWt4.same s5, IW.mem, by omega, fun H6 s6 => ?_⟩
      exact ⟨rfl, bl_true (Q := Q) rfl (q H6 ((s14.trans s5).trans s6))⟩
end K15
end
section
set_option maxRecDepth 100000
set_option maxHeartbeats 4000000
namespace K15
open PySem PySem.Spec PyProof.Rows L2
variable {P : Program} {w : World} {K : PySem.W.Frag} {mg : Str → Option Value} {base : Heap} {C : Addr}
theorem rows_of {H : Hp} {wd : Nat} : ∀ {rs : List Addr}, (∀ r ∈ rs, RowT H 30 wd r) → ∃ bx : Bxs, RowsAt H rs .tup bx ∧ (∀ row ∈ bx, GoodR 30 wd row)
  | [], _ => ⟨[], ⟨rfl, fun i r row h => by simp at h⟩, fun row h => by cases h⟩
  | r :: rs, h => by
    obtain ⟨row, e, g⟩ := h r (List.mem_cons_self ..)
    obtain ⟨bx, ⟨h1, h2⟩, h3⟩ := rows_of (rs := rs) fun x hx => h x (List.mem_cons_of_mem _ hx)
    refine ⟨row :: bx, ⟨by simp [h1], fun i r' row' e1 e2 => ?_⟩, fun x hx => ?_⟩
    · cases i with
      | zero =>
        simp at e1 e2
        subst e1 e2
        exact e
      | succ i => exact h2 i r' row' (by simpa using e1) (by simpa using e2)
    · rcases List.mem_cons.mp hx with rfl | hx
      · exact g
      · exact h3 x hx
theorem tab_of {H : Hp} {a : Addr} (h : TabG H a 30) : ∃ bx wd, TabAt H a bx ∧ GoodB bx wd := by
  obtain ⟨rs, wd, e, hr, d1, d2, d3, d4⟩ := h
  obtain ⟨bx, R, hg⟩ := rows_of hr
  refine ⟨bx, wd, ⟨rs, e, R⟩, ?_, ?_, d3, d4, fun row hrow => (hg row hrow).len, fun row hrow z hz => (hg row hrow).forms z hz⟩
  · rw [← R.1]; exact d1
  · rw [← R.1]; exact d2
theorem TabAt.px {H H' : Hp} {p c a : Addr} {bx : Bxs} (h : TabAt H a bx) (hP : Pool H p c) (x : Px p c H H') : TabAt H' a bx := by
  obtain ⟨rs, e, h1, h2⟩ := h
  exact ⟨rs, x.tup hP e, h1, fun i r row e1 e2 => x.tup hP (h2 i r row e1 e2)⟩
theorem Pool.ne_of {H : Hp} {p c a : Addr} {o : HO} (h : Pool H p c) (e : H a = some o) (n : ∀ xs, o ≠ .lst xs) : a ≠ p ∧ a ≠ c := by
  obtain ⟨⟨seed, k, cs, e1, e2⟩, _⟩ := h
  refine ⟨fun z => ?_, fun z => ?_⟩
  · subst z
    rw [e1] at e
    exact n _ (Option.some.inj e).symm
  · subst z
    rw [e2] at e
    exact n _ (Option.some.inj e).symm
theorem TblAt.px {H H' : Hp} {p c x : Addr} {bx : Bxs} {wd : Nat} (h : TblAt C H x bx wd) (hP : Pool H p c) (y : Px p c H H') : TblAt C H' x bx wd := by
  obtain ⟨dx, d, fs, e1, e2, e3, e4, e5⟩ := h.ex
  obtain ⟨n1, n2⟩ := hP.ne_of e1 (fun _ z => by cases z)
  obtain ⟨n3, n4⟩ := hP.ne_of e5 (fun _ z => by cases z)
  exact ⟨dx, d, fs, y.keep _ _ e1 n1 n2, e2, e3, e4, y.keep _ _ e5 n3 n4⟩
def sp_law (K : PySem.W.Frag) : Sp := fun vs H Q _ => ∃ (a : Addr) (ns : List Int), vs = [.ref a] ∧ SqL K H a (ns.map V.int) ∧ ∀ H', Q (.bl true) H'
theorem fn_law (T : Txt K mg C) {f : Addr} {fd : FuncData} (F : Fun K "law" "law" s_law f fd) : FnOk P w K mg base CX0 8 f fd ["_law_script"] (sp_law K) := by
  have c_law_pool := cal_law_pool (P := P) (w := w) (base := base) T
  have c_law_boxes := cal_law_boxes (P := P) (w := w) (base := base) T
  have c_law_draw := cal_law_draw (P := P) (w := w) (base := base) T
  have m_Table := mak_Table (P := P) (w := w) (base := base) T
  have c_law_far := cal_law_far (P := P) (w := w) (base := base) T
  have c_law_right := cal_law_right (P := P) (w := w) (base := base) T
  have c_law_walk := cal_law_walk (P := P) (w := w) (base := base) T
  have c_law_flag := cal_law_flag (P := P) (w := w) (base := base) T
  have c_is_way := cal_is_way (P := P) (w := w) (base := base) T
  have c_by_way := cal_by_way (P := P) (w := w) (base := base) T
  have c_law_tells := cal_law_tells (P := P) (w := w) (base := base) T
  refine fn_of_def F sc_law (fun vs H Q E h => ?_) fun f cdv A outer s H vs Q E hr h => ?_
  · obtain ⟨a, ns, rfl, _⟩ := h
    rfl
  · obtain ⟨a, ns, rfl, hsq, q⟩ := h
    have nd := sc_law.nd
    refine ⟨_, (pss_cons (ps_set (i := 1) nd rfl (Or.inr rfl) (pe_c c_law_pool hr (by decide) (by rfl) (pa_cons (pv 0) pa_nil)))
(pss_cons (ps_set (i := 2) nd rfl (Or.inl rfl) (pe_c c_law_boxes hr (by decide) (by rfl) (pa_cons (pv 1) (pa_cons pe_int pa_nil))))
(pss_cons (ps_if (pt_cmpR op_eq (pe_c c_law_draw hr (by decide) (by rfl) (pa_cons (pv 1) (pa_cons pe_int pa_nil))) pe_int (nomark _))
(pss_one (ps_set (i := 2) nd rfl (Or.inl rfl) (pe_callTy call_tuple_of (by rfl) T.b_tuple (by decide +kernel) (pa_cons (pe_lc (own := [("_law_row", 4)]) rfl nd (pi_range1 (by rfl) T.b_range (pa_cons pe_int pa_nil)) (blkOk_by (own := [("_law_row", 4)]) (N := N_law) (sc := defScope s_law) (by decide +kernel)) (fun _ _ _ _ _ => (pg_name (i := 4) nd rfl (Or.inl rfl))) (fun _ _ _ _ _ => pts_nil) (fun _ _ _ _ _ => (pe_callTy (call_tuple_ofB (K := K) (by rfl)) (by rfl) T.b_tuple (by decide +kernel) (pa_cons (pe_lc (own := [("_law_column", 6)]) rfl nd (pi_range1 (by rfl) T.b_range (pa_cons pe_int pa_nil)) (blkOk_in (own := [("_law_column", 6)]) (N := N_law) (sc := defScope s_law) (by decide +kernel)) (fun _ _ _ _ _ => (pg_name (i := 6) nd rfl (Or.inl rfl))) (fun _ _ _ _ _ => pts_nil) (fun _ _ _ _ _ => (pe_ifExp (pt_cmpR op_eq (pe_c c_law_draw hr (by decide) (by rfl) (pa_cons (pv 1) (pa_cons pe_int pa_nil))) pe_int (nomark _)) pe_str pe_non))) pa_nil)))) pa_nil))))
pss_nil)
(pss_cons (ps_set (i := 3) nd rfl (Or.inl rfl) (pe_mk m_Table hr (by decide) (by rfl) (pa_cons (pv 2) pa_nil)))
(pss_cons (ps_for PassesOwn.never rfl (pi_range1 (by rfl) T.b_range (pa_cons (pe_callB call_len_seq (by rfl) T.b_len PySem.boot_len (pa_cons (pv 2) pa_nil)) pa_nil)) (pg_name (i := 4) nd rfl (Or.inl rfl))
(pss_cons (ps_set (i := 5) nd rfl (Or.inl rfl) (pe_ix ix_tup (pe_c c_law_far hr (by decide) (by rfl) (pa_cons (pv 2) (pa_cons (pv 4) pa_nil))) pe_int (fun _ _ => rfl)))
(pss_one (ps_for PassesOwn.never rfl (pi_range1 (by rfl) T.b_range (pa_cons (pe_callB call_len_seq (by rfl) T.b_len PySem.boot_len (pa_cons (pe_ix ix_tup (pv 2) pe_int (fun _ _ => rfl)) pa_nil)) pa_nil)) (pg_name (i := 6) nd rfl (Or.inl rfl))
(pss_one (ps_if (pt_not (pt_val (pe_c c_law_right hr (by decide) (by rfl) (pa_cons (pv 2) (pa_cons (pv 3) (pa_cons (pv 4) (pa_cons (pv 6) (pa_cons (pv 5) pa_nil))))))))
(pss_one (ps_ret pe_bl))
pss_nil))))))
(pss_cons (ps_for PassesOwn.never rfl (pi_range1 (by rfl) T.b_range (pa_cons pe_int pa_nil)) (pg_name (i := 7) nd rfl (Or.inl rfl))
(pss_cons (ps_set (i := 4) nd rfl (Or.inl rfl) (pe_c c_law_draw hr (by decide) (by rfl) (pa_cons (pv 1) (pa_cons (pe_callB call_len_seq (by rfl) T.b_len PySem.boot_len (pa_cons (pv 2) pa_nil)) pa_nil))))
(pss_cons (ps_set (i := 8) nd rfl (Or.inl rfl) (pe_c c_law_walk hr (by decide) (by rfl) (pa_cons (pv 1) (pa_cons (pv 2) (pa_cons (pv 4) (pa_cons (pe_op op_add pe_int (pe_op op_mul pe_int (pe_c c_law_draw hr (by decide) (by rfl) (pa_cons (pv 1) (pa_cons pe_int pa_nil))))) pa_nil))))))
(pss_one (ps_if (pt_cmpR op_eq (pe_op op_mod (pe_callTy call_int1 (by rfl) T.b_int (by decide +kernel) (pa_cons (pe_callB call_len_seq (by rfl) T.b_len PySem.boot_len (pa_cons (pv 8) pa_nil)) pa_nil)) pe_int) pe_int (nomark _))
(pss_one (ps_if (PW.pt (pw_or (pt_not (pt_val (pe_c c_law_flag hr (by decide) (by rfl) (pa_cons (pe_c c_is_way hr (by decide) (by rfl) (pa_cons (pv 3) (pa_cons (pv 4) (pa_cons (pe_ix ix_tup (pe_ix ix_tup (pv 8) (pe_un un_neg pe_int) (fun _ _ => rfl)) pe_int (fun _ _ => rfl)) (pa_cons (pv 8) pa_nil))))) (pa_cons pe_bl pa_nil))))) (pw_or1 (pt_cmpR op_ne (pe_c c_by_way hr (by decide) (by rfl) (pa_cons (pv 3) (pa_cons (pv 8) pa_nil))) (pe_c c_law_tells hr (by decide) (by rfl) (pa_cons (pv 2) (pa_cons (pv 8) pa_nil))) (nomark _)))))
(pss_one (ps_ret pe_bl))
pss_nil))
pss_nil)))))
(pss_one (ps_ret pe_bl)))))))), ?_⟩
    refine ⟨_, rfl, a, ns, rfl, hsq, fun p c H1 s1 hP => ?_⟩
    refine ⟨_, rfl, p, c, 5, rfl, hP, by decide, by decide, fun tb0 H2 tab x2 => ?_⟩
    refine ⟨_, rfl, p, c, 12, rfl, x2.pool, by decide, by decide, fun d H3 d0 d1 x3 => ⟨rfl, _, rfl, ite2 (fun _ => ?_) fun _ => ?_⟩⟩
    · refine ⟨12, rfl, by decide, by decide, fun D hD => ?_⟩
      have hDpc := x3.pool.fresh hD
      refine lc_it walk_rg0 (fun i H' => Px p c H3 H' ∧ ∃ ts : List Addr, ts.length = i ∧ H' D = some (.lst (ts.map V.ref)) ∧ ∀ t ∈ ts, RowT H' 30 12 t) ⟨(Px.refl x3.pool).new hD, [], rfl, upd_same, fun _ z => by cases z⟩ (fun _ _ _ _ => trivial) (fun i x H5 H4 hi hPi hY => ?_) fun H4 hPi => ?_
      · obtain ⟨x4, ts, hts, hL, hT⟩ := hPi
        obtain ⟨rfl, rfl⟩ := hY
        have hi' : i < 12 := hi
        refine ⟨rfl, 12, rfl, by decide, by decide, fun G hG => ?_⟩
        have hGpc := x4.pool.fresh hG
        refine lc_it walk_rg0 (fun j H' => Px p c H4 H' ∧ ∃ row, GoodR 30 j row ∧ H' G = some (.lst (row.map optV))) ⟨(Px.refl x4.pool).new hG, [], GoodR.nil _, upd_same⟩ (fun _ _ _ _ => trivial) (fun j x H7 H6 hj hPj hY => ?_) fun H6 hPj => ?_
        · obtain ⟨x6, row, hg, hG6⟩ := hPj
          obtain ⟨rfl, rfl⟩ := hY
          have hj' : j < 12 := hj
          have hgl := hg.len
          refine ⟨rfl, _, rfl, p, c, 8, rfl, x6.pool, by decide, by decide, fun e H8 e0 e1 x8 => ⟨rfl, _, rfl, ite2 (fun _ => ?_) fun _ => ?_⟩⟩
          · refine ⟨_, x8.keep _ _ hG6 hGpc.1 hGpc.2, by rw [List.length_map]; exact smallL (by omega), (x6.trans x8).mut hG hGpc.1 hGpc.2, row ++ [some (S [97, 98])], hg.snoc (fun z hz => ?_), by rw [upd_same, optV_snoc]; rfl⟩
            cases hz
            refine ⟨by rw [S_len]; decide, fun y hy => ?_⟩
            have hy' : y ∈ [97, 98] := hy
            simpa using hy'
          · exact ⟨_, x8.keep _ _ hG6 hGpc.1 hGpc.2, by rw [List.length_map]; exact smallL (by omega), (x6.trans x8).mut hG hGpc.1 hGpc.2, row ++ [none], hg.snoc (fun z hz => by cases hz), by rw [upd_same, optV_snoc]; rfl⟩
        · obtain ⟨x6, row, hg, hG6⟩ := hPj
          have hg' : GoodR 30 12 row := hg
          refine ⟨G, _, rfl, .inl ⟨SqL.of hG6, fun t nt => ?_⟩⟩
          have hL7 := same_upd (o := .tup (row.map optV)) nt _ _ (x6.keep _ _ hL hDpc.1 hDpc.2)
          have x7 : Px p c H4 (upd H6 t (.tup (row.map optV))) := x6.new nt
          refine ⟨_, hL7, by rw [List.length_map]; exact smallL (by omega), (x4.trans x7).mut hD hDpc.1 hDpc.2, ts ++ [t], by simp [hts], by rw [upd_same, List.map_append]; rfl, fun t' ht' => ?_⟩
          rcases List.mem_append.mp ht' with ht' | ht'
          · exact ((hT t' ht').px x4.pool x7).mutL hL7
          · rw [List.mem_singleton] at ht'; subst ht'
            exact RowT.mutL ⟨row, upd_same, hg'⟩ hL7
      · obtain ⟨x4, ts, hts, hL, hT⟩ := hPi
        have hts' : ts.length = 12 := hts
        refine ⟨D, _, rfl, .inl ⟨SqL.of hL, fun tb nt => ?_⟩⟩
        have TG : TabG (upd H4 tb (.tup (ts.map V.ref))) tb 30 := ⟨ts, 12, upd_same, fun r hr => (hT r hr).same (same_upd nt), by omega, by omega, by decide, by decide⟩
        have PP : Pool (upd H4 tb (.tup (ts.map V.ref))) p c := (x4.new nt).pool
        generalize upd H4 tb (HO.tup (ts.map V.ref)) = HB at TG PP
        have hpk := PP.known
        obtain ⟨bx, wd, hta, G⟩ := tab_of TG
        have g1 := G.h1
        have g2 := G.h2
        have g3 := G.w1
        have g4 := G.w2
        -- Table(boxes)
        refine ⟨_, rfl, fun x dx nx ndx nn => ⟨x, dx, tb, bx, wd, rfl, upd_same, hta.same (same_new (same_upd ndx) (by rw [upd_ne (Ne.symm nn)]; exact nx)), G, fun H5 k5 htb => ⟨rfl, ?_⟩⟩⟩
        have s5 : Same HB H5 := fun b o e => k5 b o (same_new (same_upd ndx) (by rw [upd_ne (Ne.symm nn)]; exact nx) _ _ e) (ne_of_none e nx)
        have P5 := PP.same s5
        have T5 := hta.same s5
        obtain ⟨rs, ha, R⟩ := id T5
        have hn : (rs.map V.ref).length = bx.length := by rw [List.length_map]; exact R.1
        obtain ⟨r0, row0, _, hr0, hb0, hrow0⟩ := tab_row (i := 0) R (List.getElem?_eq_getElem (by rw [hn]; exact G.h1))
        have hw0 : row0.length = wd := G.rows row0 (List.mem_of_getElem? hb0)
        refine ⟨_, rfl, tb, _, rfl, .inr (SqT.of ha), _, rfl, by omega, by omega, ?_⟩
        refine for_it walk_rg0 (fun i σ H' => ∃ y4 y5 y6, σ = [some (.ref a), some (.ref p), some (.ref tb), some (.ref x), y4, y5, y6, none, none] ∧ Same H5 H') ⟨_, _, _, rfl, Same.refl _⟩ (fun _ _ _ _ _ => trivial) ?_ ?_
        · rintro i xx σ H7 H6 hi ⟨y4, y5, y6, rfl, s6⟩ ⟨rfl, rfl⟩
          have hi' : i < (rs.map V.ref).length := hi
          refine ⟨_, rfl, _, rfl, tb, bx, wd, i, rfl, T5.same s6, G, by omega, fun t d1 d2 H8 s8 e8 ed2 => ⟨t, _, 1, _, rfl, rfl, SqT.of e8, atI_nat (j := 1) rfl, ?_⟩⟩
          have s58 := s6.trans s8
          refine ⟨_, rfl, tb, _, 0, .ref r0, rfl, rfl, SqT.of (s58 _ _ ha), atI_nat (j := 0) (by rw [List.getElem?_map, hr0]; rfl), r0, _, rfl, .inr (SqT.of (s58 _ _ hrow0)), _, rfl, by omega, by rw [List.length_map]; omega, ?_⟩
          refine for_it walk_rg0 (fun j σ H' => ∃ y6, σ = [some (.ref a), some (.ref p), some (.ref tb), some (.ref x), some (.int (i : Int)), some (.ref d2), y6, none, none] ∧ Same H8 H') ⟨_, rfl, Same.refl _⟩ (fun _ _ _ _ _ => trivial) ?_ ?_
          · rintro j xx σ H10 H9 hj ⟨y6, rfl, s9⟩ ⟨rfl, rfl⟩
            have hj' : j < (row0.map optV).length := hj
            rw [List.length_map] at hj'
            have s59 := s58.trans s9
            exact ⟨_, rfl, _, rfl, _, rfl, _, rfl, _, rfl, tb, x, d2, bx, wd, i, j, rfl, T5.same s59, htb.same s59, G, by omega, by omega, s9 _ _ ed2, fun H11 s11 => ⟨true, rfl, iteF ⟨_, rfl, s9.trans s11⟩⟩⟩
          · rintro σ H9 ⟨y6, rfl, s9⟩
            exact ⟨_, _, _, rfl, s58.trans s9⟩
        · rintro σ H6 ⟨y4, y5, y6, rfl, s6⟩
          have P6 := P5.same s6
          refine ⟨4, rfl, by decide, by decide, ?_⟩
          refine for_it walk_rg0 (fun i σ H' => ∃ y4 y5 y6 y7 y8, σ = [some (.ref a), some (.ref p), some (.ref tb), some (.ref x), y4, y5, y6, y7, y8] ∧ Px p c H6 H') ⟨_, _, _, _, _, rfl, Px.refl P6⟩ (fun _ _ _ _ _ => trivial) ?_ ?_
          · rintro i xx σ H8 H7 hi ⟨y4, y5, y6, y7, y8, rfl, x7⟩ ⟨rfl, rfl⟩
            have T7 := (T5.same s6).px P6 x7
            have B7 := (htb.same s6).px P6 x7
            obtain ⟨rs7, ha7, R7⟩ := id T7
            have hn7 : (rs7.map V.ref).length = bx.length := by rw [List.length_map]; exact R7.1
            refine ⟨_, rfl, _, rfl, tb, _, rfl, .inr (SqT.of ha7), p, c, _, rfl, x7.pool, by omega, by omega, fun d H9 d0 d1 x9 => ?_⟩
            obtain ⟨r, rfl⟩ := Int.eq_ofNat_of_zero_le d0
            have hr : r < bx.length := by omega
            refine ⟨_, rfl, _, rfl, _, rfl, _, rfl, p, c, 5, rfl, x9.pool, by decide, by decide, fun e H10 e0 e1 x10 => ?_⟩
            obtain ⟨n, rfl⟩ := Int.eq_ofNat_of_zero_le e0
            have x710 := x9.trans x10
            have T10 := T7.px x7.pool x710
            have B10 := B7.px x7.pool x710
            refine ⟨2, _, rfl, rfl, .inl (by decide), 1, _, rfl, rfl, p, c, tb, bx, wd, r, 1 + 2 * n, ?_, x10.pool, T10, G, by omega, fun t pth H11 x11 hW St hfst hpl => ?_⟩
            · show [V.ref p, V.ref tb, V.int (r : Int), V.int (1 + 2 * (n : Int))] = [V.ref p, V.ref tb, V.int (r : Int), V.int ((1 + 2 * n : Nat) : Int)]
              rw [show ((1 + 2 * n : Nat) : Int) = 1 + 2 * (n : Int) by omega]
            have T11 := T10.px x10.pool x11
            have B11 := B10.px x10.pool x11
            have X11 := x7.trans (x710.trans x11)
            obtain ⟨as, hwt, hWa⟩ := id hW
            have hwl : (as.map V.ref).length = pth.length := by rw [List.length_map, hWa.1]
            refine ⟨_, rfl, t, _, rfl, .inr (SqT.of hwt), .inl ⟨_, rfl, _, 2, rfl, rfl, (by decide : (0 : Int) < 2), rfl, _, rfl, ite2 (fun eo => ?_) fun _ => ?_⟩⟩
            · have hodd : pth.length % 2 = 1 := by
                have := V.int.inj (of_decide_eq_true eo)
                rw [hwl] at this
                omega
              have hpos : 0 < pth.length := by omega
              obtain ⟨bz, hbz⟩ : ∃ b, pth[pth.length - 1]? = some b := ⟨_, List.getElem?_eq_getElem (by omega)⟩
              obtain ⟨az, gaz, haz⟩ := hWa.get hbz
              have IW : IsWay (keys bx) r bz.2 pth := ⟨St.mem, hodd, hfst, fun b hb => by rw [hbz] at hb; cases hb; rfl, St.ne, St.alt⟩
              obtain ⟨_, hbw⟩ := keys_lt G bz (St.mem bz (List.mem_of_getElem? hbz))
              refine ⟨_, rfl, _, rfl, _, rfl, 1, rfl, t, _, -1, _, rfl, rfl, SqT.of hwt, way_last hWa hpos gaz, az, _, 1, _, rfl, rfl, SqT.of haz, atI_nat (j := 1) rfl, _, rfl, x, t, bx, wd, r, bz.2, pth, rfl, B11, G, hr, hbw, hW, IW, by omega, fun H12 s12 => ⟨rfl, true, rfl, iteF ?_⟩⟩
              refine ⟨_, rfl, _, rfl, x, t, bx, wd, pth, rfl, B11.same s12, G, hW.same s12, St, hodd, by omega, fun H13 s13 => ?_⟩
              refine ⟨_, rfl, _, rfl, tb, t, bx, wd, pth, rfl, T11.same (s12.trans s13), G, (hW.same s12).same s13, St.mem, by omega, fun H14 s14 => ⟨rfl, _, rfl, ?_⟩⟩
              rw [decide_eq_true (show V.str (S (tellsL bx pth)) = V.str (S (tellsL bx pth)) from rfl)]
              exact iteF ⟨_, _, _, _, _, rfl, X11.same ((s12.trans s13).trans s14)⟩
            · exact ⟨_, _, _, _, _, rfl, X11⟩
          · rintro σ H7 ⟨y4, y5, y6, y7, y8, rfl, x7⟩
            exact q H7
    · have TG : TabG H3 tb0 30 := tab.px x2.pool x3
      have PP : Pool H3 p c := x3.pool
      have hpk := PP.known
      obtain ⟨bx, wd, hta, G⟩ := tab_of TG
      have g1 := G.h1
      have g2 := G.h2
      have g3 := G.w1
      have g4 := G.w2
      -- Table(boxes)
      refine ⟨_, rfl, fun x dx nx ndx nn => ⟨x, dx, tb0, bx, wd, rfl, upd_same, hta.same (same_new (same_upd ndx) (by rw [upd_ne (Ne.symm nn)]; exact nx)), G, fun H5 k5 htb => ⟨rfl, ?_⟩⟩⟩
      have s5 : Same H3 H5 := fun b o e => k5 b o (same_new (same_upd ndx) (by rw [upd_ne (Ne.symm nn)]; exact nx) _ _ e) (ne_of_none e nx)
      have P5 := PP.same s5
      have T5 := hta.same s5
      obtain ⟨rs, ha, R⟩ := id T5
      have hn : (rs.map V.ref).length = bx.length := by rw [List.length_map]; exact R.1
      obtain ⟨r0, row0, _, hr0, hb0, hrow0⟩ := tab_row (i := 0) R (List.getElem?_eq_getElem (by rw [hn]; exact G.h1))
      have hw0 : row0.length = wd := G.rows row0 (List.mem_of_getElem? hb0)
      refine ⟨_, rfl, tb0, _, rfl, .inr (SqT.of ha), _, rfl, by omega, by omega, ?_⟩
      refine for_it walk_rg0 (fun i σ H' => ∃ y4 y5 y6, σ = [some (.ref a), some (.ref p), some (.ref tb0), some (.ref x), y4, y5, y6, none, none] ∧ Same H5 H') ⟨_, _, _, rfl, Same.refl _⟩ (fun _ _ _ _ _ => trivial) ?_ ?_
      · rintro i xx σ H7 H6 hi ⟨y4, y5, y6, rfl, s6⟩ ⟨rfl, rfl⟩
        have hi' : i < (rs.map V.ref).length := hi
        refine ⟨_, rfl, _, rfl, tb0, bx, wd, i, rfl, T5.same s6, G, by omega, fun t d1 d2 H8 s8 e8 ed2 => ⟨t, _, 1, _, rfl, rfl, SqT.of e8, atI_nat (j := 1) rfl, ?_⟩⟩
        have s58 := s6.trans s8
        refine ⟨_, rfl, tb0, _, 0, .ref r0, rfl, rfl, SqT.of (s58 _ _ ha), atI_nat (j := 0) (by rw [List.getElem?_map, hr0]; rfl), r0, _, rfl, .inr (SqT.of (s58 _ _ hrow0)), _, rfl, by omega, by rw [List.length_map]; omega, ?_⟩
        refine for_it walk_rg0 (fun j σ H' => ∃ y6, σ = [some (.ref a), some (.ref p), some (.ref tb0), some (.ref x), some (.int (i : Int)), some (.ref d2), y6, none, none] ∧ Same H8 H') ⟨_, rfl, Same.refl _⟩ (fun _ _ _ _ _ => trivial) ?_ ?_
        · rintro j xx σ H10 H9 hj ⟨y6, rfl, s9⟩ ⟨rfl, rfl⟩
          have hj' : j < (row0.map optV).length := hj
          rw [List.length_map] at hj'
          have s59 := s58.trans s9
          exact ⟨_, rfl, _, rfl, _, rfl, _, rfl, _, rfl, tb0, x, d2, bx, wd, i, j, rfl, T5.same s59, htb.same s59, G, by omega, by omega, s9 _ _ ed2, fun H11 s11 => ⟨true, rfl, iteF ⟨_, rfl, s9.trans s11⟩⟩⟩
        · rintro σ H9 ⟨y6, rfl, s9⟩
          exact ⟨_, _, _, rfl, s58.trans s9⟩
      · rintro σ H6 ⟨y4, y5, y6, rfl, s6⟩
        have P6 := P5.same s6
        refine ⟨4, rfl, by decide, by decide, ?_⟩
        refine for_it walk_rg0 (fun i σ H' => ∃ y4 y5 y6 y7 y8, σ = [some (.ref a), some (.ref p), some (.ref tb0), some (.ref x), y4, y5, y6, y7, y8] ∧ Px p c H6 H') ⟨_, _, _, _, _, rfl, Px.refl P6⟩ (fun _ _ _ _ _ => trivial) ?_ ?_
        · rintro i xx σ H8 H7 hi ⟨y4, y5, y6, y7, y8, rfl, x7⟩ ⟨rfl, rfl⟩
          have T7 := (T5.same s6).px P6 x7
          have B7 := (htb.same s6).px P6 x7
          obtain ⟨rs7, ha7, R7⟩ := id T7
          have hn7 : (rs7.map V.ref).length = bx.length := by rw [List.length_map]; exact R7.1
          refine ⟨_, rfl, _, rfl, tb0, _, rfl, .inr (SqT.of ha7), p, c, _, rfl, x7.pool, by omega, by omega, fun d H9 d0 d1 x9 => ?_⟩
          obtain ⟨r, rfl⟩ := Int.eq_ofNat_of_zero_le d0
          have hr : r < bx.length := by omega
          refine ⟨_, rfl, _, rfl, _, rfl, _, rfl, p, c, 5, rfl, x9.pool, by decide, by decide, fun e H10 e0 e1 x10 => ?_⟩
          obtain ⟨n, rfl⟩ := Int.eq_ofNat_of_zero_le e0
          have x710 := x9.trans x10
          have T10 := T7.px x7.pool x710
          have B10 := B7.px x7.pool x710
          refine ⟨2, _, rfl, rfl, .inl (by decide), 1, _, rfl, rfl, p, c, tb0, bx, wd, r, 1 + 2 * n, ?_, x10.pool, T10, G, by omega, fun t pth H11 x11 hW St hfst hpl => ?_⟩
          · show [V.ref p, V.ref tb0, V.int (r : Int), V.int (1 + 2 * (n : Int))] = [V.ref p, V.ref tb0, V.int (r : Int), V.int ((1 + 2 * n : Nat) : Int)]
            rw [show ((1 + 2 * n : Nat) : Int) = 1 + 2 * (n : Int) by omega]
          have T11 := T10.px x10.pool x11
          have B11 := B10.px x10.pool x11
          have X11 := x7.trans (x710.trans x11)
          obtain ⟨as, hwt, hWa⟩ := id hW
          have hwl : (as.map V.ref).length = pth.length := by rw [List.length_map, hWa.1]
          refine ⟨_, rfl, t, _, rfl, .inr (SqT.of hwt), .inl ⟨_, rfl, _, 2, rfl, rfl, (by decide : (0 : Int) < 2), rfl, _, rfl, ite2 (fun eo => ?_) fun _ => ?_⟩⟩
          · have hodd : pth.length % 2 = 1 := by
              have := V.int.inj (of_decide_eq_true eo)
              rw [hwl] at this
              omega
            have hpos : 0 < pth.length := by omega
            obtain ⟨bz, hbz⟩ : ∃ b, pth[pth.length - 1]? = some b := ⟨_, List.getElem?_eq_getElem (by omega)⟩
            obtain ⟨az, gaz, haz⟩ := hWa.get hbz
            have IW : IsWay (keys bx) r bz.2 pth := ⟨St.mem, hodd, hfst, fun b hb => by rw [hbz] at hb; cases hb; rfl, St.ne, St.alt⟩
            obtain ⟨_, hbw⟩ := keys_lt G bz (St.mem bz (List.mem_of_getElem? hbz))
            refine ⟨_, rfl, _, rfl, _, rfl, 1, rfl, t, _, -1, _, rfl, rfl, SqT.of hwt, way_last hWa hpos gaz, az, _, 1, _, rfl, rfl, SqT.of haz, atI_nat (j := 1) rfl, _, rfl, x, t, bx, wd, r, bz.2, pth, rfl, B11, G, hr, hbw, hW, IW, by omega, fun H12 s12 => ⟨rfl, true, rfl, iteF ?_⟩⟩
            refine ⟨_, rfl, _, rfl, x, t, bx, wd, pth, rfl, B11.same s12, G, hW.same s12, St, hodd, by omega, fun H13 s13 => ?_⟩
            refine ⟨_, rfl, _, rfl, tb0, t, bx, wd, pth, rfl, T11.same (s12.trans s13), G, (hW.same s12).same s13, St.mem, by omega, fun H14 s14 => ⟨rfl, _, rfl, ?_⟩⟩
            rw [decide_eq_true (show V.str (S (tellsL bx pth)) = V.str (S (tellsL bx pth)) from rfl)]
            exact iteF ⟨_, _, _, _, _, rfl, X11.same ((s12.trans s13).trans s14)⟩
          · exact ⟨_, _, _, _, _, rfl, X11⟩
        · rintro σ H7 ⟨y4, y5, y6, y7, y8, rfl, x7⟩
          exact q H7
end K15
end
section
set_option maxRecDepth 100000
set_option maxHeartbeats 4000000
namespace K15
open PySem PySem.Spec PyProof.Rows L2
/-! ### each def from what the loaded part says of it -/
section
variable {K : PySem.W.Frag} {h : Heap} {mg : Str → Option Value} {f C : Addr} {oc kV doc pm cdv ct : Value} {od an : Option Addr} {osl : Array (Option Value)}
theorem mk_is_integer (X : K.In h) (G : h.Ns mainGlobals mg) (a : PySem.W.nsIn K mainGlobals "is_integer" = some (some (.ref f))) (l : K.lookup f = some ⟨oc, od, .func (PySem.W.fnOf "is_integer" "is_integer" (defArgs s_is_integer) (defBody s_is_integer) (defScope s_is_integer) .none kV doc pm an cdv ct), osl⟩) (c : PySem.W.codeIn K cdv "is_integer" = true) (k : PySem.W.keepIn K (.ref f) = true) : DefAt K mg "is_integer" s_is_integer ["thing"] :=
  ⟨f, _, fun_mk (st := s_is_integer) l c k, PySem.W.mg_of X G a, (fun_mk (x := "is_integer") (st := s_is_integer) l c k).binds (ps := ["thing"]) fun _ _ _ _ _ _ us hl => match us, hl with | [_], _ => rfl⟩
theorem mk_is_within (X : K.In h) (G : h.Ns mainGlobals mg) (a : PySem.W.nsIn K mainGlobals "is_within" = some (some (.ref f))) (l : K.lookup f = some ⟨oc, od, .func (PySem.W.fnOf "is_within" "is_within" (defArgs s_is_within) (defBody s_is_within) (defScope s_is_within) .none kV doc pm an cdv ct), osl⟩) (c : PySem.W.codeIn K cdv "is_within" = true) (k : PySem.W.keepIn K (.ref f) = true) : DefAt K mg "is_within" s_is_within ["thing", "least", "most"] :=
  ⟨f, _, fun_mk (st := s_is_within) l c k, PySem.W.mg_of X G a, (fun_mk (x := "is_within") (st := s_is_within) l c k).binds (ps := ["thing", "least", "most"]) fun _ _ _ _ _ _ us hl => match us, hl with | [_, _, _], _ => rfl⟩
theorem mk_is_pair (X : K.In h) (G : h.Ns mainGlobals mg) (a : PySem.W.nsIn K mainGlobals "is_pair" = some (some (.ref f))) (l : K.lookup f = some ⟨oc, od, .func (PySem.W.fnOf "is_pair" "is_pair" (defArgs s_is_pair) (defBody s_is_pair) (defScope s_is_pair) .none kV doc pm an cdv ct), osl⟩) (c : PySem.W.codeIn K cdv "is_pair" = true) (k : PySem.W.keepIn K (.ref f) = true) : DefAt K mg "is_pair" s_is_pair ["thing"] :=
  ⟨f, _, fun_mk (st := s_is_pair) l c k, PySem.W.mg_of X G a, (fun_mk (x := "is_pair") (st := s_is_pair) l c k).binds (ps := ["thing"]) fun _ _ _ _ _ _ us hl => match us, hl with | [_], _ => rfl⟩
theorem mk_is_word (X : K.In h) (G : h.Ns mainGlobals mg) (a : PySem.W.nsIn K mainGlobals "is_word" = some (some (.ref f))) (l : K.lookup f = some ⟨oc, od, .func (PySem.W.fnOf "is_word" "is_word" (defArgs s_is_word) (defBody s_is_word) (defScope s_is_word) .none kV doc pm an cdv ct), osl⟩) (c : PySem.W.codeIn K cdv "is_word" = true) (k : PySem.W.keepIn K (.ref f) = true) : DefAt K mg "is_word" s_is_word ["letters", "thing"] :=
  ⟨f, _, fun_mk (st := s_is_word) l c k, PySem.W.mg_of X G a, (fun_mk (x := "is_word") (st := s_is_word) l c k).binds (ps := ["letters", "thing"]) fun _ _ _ _ _ _ us hl => match us, hl with | [_, _], _ => rfl⟩
theorem mk_is_text (X : K.In h) (G : h.Ns mainGlobals mg) (a : PySem.W.nsIn K mainGlobals "is_text" = some (some (.ref f))) (l : K.lookup f = some ⟨oc, od, .func (PySem.W.fnOf "is_text" "is_text" (defArgs s_is_text) (defBody s_is_text) (defScope s_is_text) .none kV doc pm an cdv ct), osl⟩) (c : PySem.W.codeIn K cdv "is_text" = true) (k : PySem.W.keepIn K (.ref f) = true) : DefAt K mg "is_text" s_is_text ["thing"] :=
  ⟨f, _, fun_mk (st := s_is_text) l c k, PySem.W.mg_of X G a, (fun_mk (x := "is_text") (st := s_is_text) l c k).binds (ps := ["thing"]) fun _ _ _ _ _ _ us hl => match us, hl with | [_], _ => rfl⟩
theorem mk_is_form (X : K.In h) (G : h.Ns mainGlobals mg) (a : PySem.W.nsIn K mainGlobals "is_form" = some (some (.ref f))) (l : K.lookup f = some ⟨oc, od, .func (PySem.W.fnOf "is_form" "is_form" (defArgs s_is_form) (defBody s_is_form) (defScope s_is_form) .none kV doc pm an cdv ct), osl⟩) (c : PySem.W.codeIn K cdv "is_form" = true) (k : PySem.W.keepIn K (.ref f) = true) : DefAt K mg "is_form" s_is_form ["thing", "most"] :=
  ⟨f, _, fun_mk (st := s_is_form) l c k, PySem.W.mg_of X G a, (fun_mk (x := "is_form") (st := s_is_form) l c k).binds (ps := ["thing", "most"]) fun _ _ _ _ _ _ us hl => match us, hl with | [_, _], _ => rfl⟩
theorem mk_strike (X : K.In h) (G : h.Ns mainGlobals mg) (a : PySem.W.nsIn K mainGlobals "strike" = some (some (.ref f))) (l : K.lookup f = some ⟨oc, od, .func (PySem.W.fnOf "strike" "strike" (defArgs s_strike) (defBody s_strike) (defScope s_strike) .none kV doc pm an cdv ct), osl⟩) (c : PySem.W.codeIn K cdv "strike" = true) (k : PySem.W.keepIn K (.ref f) = true) : DefAt K mg "strike" s_strike ["row"] :=
  ⟨f, _, fun_mk (st := s_strike) l c k, PySem.W.mg_of X G a, (fun_mk (x := "strike") (st := s_strike) l c k).binds (ps := ["row"]) fun _ _ _ _ _ _ us hl => match us, hl with | [_], _ => rfl⟩
theorem mk_inverse (X : K.In h) (G : h.Ns mainGlobals mg) (a : PySem.W.nsIn K mainGlobals "inverse" = some (some (.ref f))) (l : K.lookup f = some ⟨oc, od, .func (PySem.W.fnOf "inverse" "inverse" (defArgs s_inverse) (defBody s_inverse) (defScope s_inverse) .none kV doc pm an cdv ct), osl⟩) (c : PySem.W.codeIn K cdv "inverse" = true) (k : PySem.W.keepIn K (.ref f) = true) : DefAt K mg "inverse" s_inverse ["row"] :=
  ⟨f, _, fun_mk (st := s_inverse) l c k, PySem.W.mg_of X G a, (fun_mk (x := "inverse") (st := s_inverse) l c k).binds (ps := ["row"]) fun _ _ _ _ _ _ us hl => match us, hl with | [_], _ => rfl⟩
theorem mk_product (X : K.In h) (G : h.Ns mainGlobals mg) (a : PySem.W.nsIn K mainGlobals "product" = some (some (.ref f))) (l : K.lookup f = some ⟨oc, od, .func (PySem.W.fnOf "product" "product" (defArgs s_product) (defBody s_product) (defScope s_product) .none kV doc pm an cdv ct), osl⟩) (c : PySem.W.codeIn K cdv "product" = true) (k : PySem.W.keepIn K (.ref f) = true) : DefAt K mg "product" s_product ["rows"] :=
  ⟨f, _, fun_mk (st := s_product) l c k, PySem.W.mg_of X G a, (fun_mk (x := "product") (st := s_product) l c k).binds (ps := ["rows"]) fun _ _ _ _ _ _ us hl => match us, hl with | [_], _ => rfl⟩
theorem mk_is_row (X : K.In h) (G : h.Ns mainGlobals mg) (a : PySem.W.nsIn K mainGlobals "is_row" = some (some (.ref f))) (l : K.lookup f = some ⟨oc, od, .func (PySem.W.fnOf "is_row" "is_row" (defArgs s_is_row) (defBody s_is_row) (defScope s_is_row) .none kV doc pm an cdv ct), osl⟩) (c : PySem.W.codeIn K cdv "is_row" = true) (k : PySem.W.keepIn K (.ref f) = true) : DefAt K mg "is_row" s_is_row ["thing"] :=
  ⟨f, _, fun_mk (st := s_is_row) l c k, PySem.W.mg_of X G a, (fun_mk (x := "is_row") (st := s_is_row) l c k).binds (ps := ["thing"]) fun _ _ _ _ _ _ us hl => match us, hl with | [_], _ => rfl⟩
theorem mk_is_box_text (X : K.In h) (G : h.Ns mainGlobals mg) (a : PySem.W.nsIn K mainGlobals "is_box_text" = some (some (.ref f))) (l : K.lookup f = some ⟨oc, od, .func (PySem.W.fnOf "is_box_text" "is_box_text" (defArgs s_is_box_text) (defBody s_is_box_text) (defScope s_is_box_text) .none kV doc pm an cdv ct), osl⟩) (c : PySem.W.codeIn K cdv "is_box_text" = true) (k : PySem.W.keepIn K (.ref f) = true) : DefAt K mg "is_box_text" s_is_box_text ["thing"] :=
  ⟨f, _, fun_mk (st := s_is_box_text) l c k, PySem.W.mg_of X G a, (fun_mk (x := "is_box_text") (st := s_is_box_text) l c k).binds (ps := ["thing"]) fun _ _ _ _ _ _ us hl => match us, hl with | [_], _ => rfl⟩
theorem mk_t_init (a : PySem.W.findIn K (.ref C) "__init__" = some (some (.ref f))) (i : PySem.W.isFn K (.ref f) = true) (l : K.lookup f = some ⟨oc, od, .func (PySem.W.fnOf "__init__" "Table.__init__" (defArgs s_t_init) (defBody s_t_init) (defScope s_t_init) .none kV doc pm an cdv ct), osl⟩) (c : PySem.W.codeIn K cdv "Table.__init__" = true) (k : PySem.W.keepIn K (.ref f) = true) : MethAt K C "__init__" "Table.__init__" s_t_init ["self", "boxes"] :=
  ⟨f, _, fun_mk (st := s_t_init) l c k, ⟨a, i, k⟩, (fun_mk (x := "__init__") (st := s_t_init) l c k).binds (ps := ["self", "boxes"]) fun _ _ _ _ _ _ us hl => match us, hl with | [_, _], _ => rfl⟩
theorem mk_t_keep (a : PySem.W.findIn K (.ref C) "keep" = some (some (.ref f))) (i : PySem.W.isFn K (.ref f) = true) (l : K.lookup f = some ⟨oc, od, .func (PySem.W.fnOf "keep" "Table.keep" (defArgs s_t_keep) (defBody s_t_keep) (defScope s_t_keep) .none kV doc pm an cdv ct), osl⟩) (c : PySem.W.codeIn K cdv "Table.keep" = true) (k : PySem.W.keepIn K (.ref f) = true) : MethAt K C "keep" "Table.keep" s_t_keep ["self", "boxes"] :=
  ⟨f, _, fun_mk (st := s_t_keep) l c k, ⟨a, i, k⟩, (fun_mk (x := "keep") (st := s_t_keep) l c k).binds (ps := ["self", "boxes"]) fun _ _ _ _ _ _ us hl => match us, hl with | [_, _], _ => rfl⟩
theorem mk_is_box (X : K.In h) (G : h.Ns mainGlobals mg) (a : PySem.W.nsIn K mainGlobals "is_box" = some (some (.ref f))) (l : K.lookup f = some ⟨oc, od, .func (PySem.W.fnOf "is_box" "is_box" (defArgs s_is_box) (defBody s_is_box) (defScope s_is_box) .none kV doc pm an cdv ct), osl⟩) (c : PySem.W.codeIn K cdv "is_box" = true) (k : PySem.W.keepIn K (.ref f) = true) : DefAt K mg "is_box" s_is_box ["table", "thing"] :=
  ⟨f, _, fun_mk (st := s_is_box) l c k, PySem.W.mg_of X G a, (fun_mk (x := "is_box") (st := s_is_box) l c k).binds (ps := ["table", "thing"]) fun _ _ _ _ _ _ us hl => match us, hl with | [_, _], _ => rfl⟩
theorem mk_spread_from (X : K.In h) (G : h.Ns mainGlobals mg) (a : PySem.W.nsIn K mainGlobals "spread_from" = some (some (.ref f))) (l : K.lookup f = some ⟨oc, od, .func (PySem.W.fnOf "spread_from" "spread_from" (defArgs s_spread_from) (defBody s_spread_from) (defScope s_spread_from) .none kV doc pm an cdv ct), osl⟩) (c : PySem.W.codeIn K cdv "spread_from" = true) (k : PySem.W.keepIn K (.ref f) = true) : DefAt K mg "spread_from" s_spread_from ["table", "row"] :=
  ⟨f, _, fun_mk (st := s_spread_from) l c k, PySem.W.mg_of X G a, (fun_mk (x := "spread_from") (st := s_spread_from) l c k).binds (ps := ["table", "row"]) fun _ _ _ _ _ _ us hl => match us, hl with | [_, _], _ => rfl⟩
theorem mk_check_place (X : K.In h) (G : h.Ns mainGlobals mg) (a : PySem.W.nsIn K mainGlobals "check_place" = some (some (.ref f))) (l : K.lookup f = some ⟨oc, od, .func (PySem.W.fnOf "check_place" "check_place" (defArgs s_check_place) (defBody s_check_place) (defScope s_check_place) .none kV doc pm an cdv ct), osl⟩) (c : PySem.W.codeIn K cdv "check_place" = true) (k : PySem.W.keepIn K (.ref f) = true) : DefAt K mg "check_place" s_check_place ["table", "row", "column"] :=
  ⟨f, _, fun_mk (st := s_check_place) l c k, PySem.W.mg_of X G a, (fun_mk (x := "check_place") (st := s_check_place) l c k).binds (ps := ["table", "row", "column"]) fun _ _ _ _ _ _ us hl => match us, hl with | [_, _, _], _ => rfl⟩
theorem mk_boxes_back (X : K.In h) (G : h.Ns mainGlobals mg) (a : PySem.W.nsIn K mainGlobals "boxes_back" = some (some (.ref f))) (l : K.lookup f = some ⟨oc, od, .func (PySem.W.fnOf "boxes_back" "boxes_back" (defArgs s_boxes_back) (defBody s_boxes_back) (defScope s_boxes_back) .none kV doc pm an cdv ct), osl⟩) (c : PySem.W.codeIn K cdv "boxes_back" = true) (k : PySem.W.keepIn K (.ref f) = true) : DefAt K mg "boxes_back" s_boxes_back ["rows", "columns", "kind", "here"] :=
  ⟨f, _, fun_mk (st := s_boxes_back) l c k, PySem.W.mg_of X G a, (fun_mk (x := "boxes_back") (st := s_boxes_back) l c k).binds (ps := ["rows", "columns", "kind", "here"]) fun _ _ _ _ _ _ us hl => match us, hl with | [_, _, _, _], _ => rfl⟩
theorem mk_way_in (X : K.In h) (G : h.Ns mainGlobals mg) (a : PySem.W.nsIn K mainGlobals "way_in" = some (some (.ref f))) (l : K.lookup f = some ⟨oc, od, .func (PySem.W.fnOf "way_in" "way_in" (defArgs s_way_in) (defBody s_way_in) (defScope s_way_in) .none kV doc pm an cdv ct), osl⟩) (c : PySem.W.codeIn K cdv "way_in" = true) (k : PySem.W.keepIn K (.ref f) = true) : DefAt K mg "way_in" s_way_in ["table", "row", "column"] :=
  ⟨f, _, fun_mk (st := s_way_in) l c k, PySem.W.mg_of X G a, (fun_mk (x := "way_in") (st := s_way_in) l c k).binds (ps := ["table", "row", "column"]) fun _ _ _ _ _ _ us hl => match us, hl with | [_, _, _], _ => rfl⟩
theorem mk_way_between (X : K.In h) (G : h.Ns mainGlobals mg) (a : PySem.W.nsIn K mainGlobals "way_between" = some (some (.ref f))) (l : K.lookup f = some ⟨oc, od, .func (PySem.W.fnOf "way_between" "way_between" (defArgs s_way_between) (defBody s_way_between) (defScope s_way_between) .none kV doc pm an cdv ct), osl⟩) (c : PySem.W.codeIn K cdv "way_between" = true) (k : PySem.W.keepIn K (.ref f) = true) : DefAt K mg "way_between" s_way_between ["table", "row", "column"] :=
  ⟨f, _, fun_mk (st := s_way_between) l c k, PySem.W.mg_of X G a, (fun_mk (x := "way_between") (st := s_way_between) l c k).binds (ps := ["table", "row", "column"]) fun _ _ _ _ _ _ us hl => match us, hl with | [_, _, _], _ => rfl⟩
theorem mk_are_steps (X : K.In h) (G : h.Ns mainGlobals mg) (a : PySem.W.nsIn K mainGlobals "are_steps" = some (some (.ref f))) (l : K.lookup f = some ⟨oc, od, .func (PySem.W.fnOf "are_steps" "are_steps" (defArgs s_are_steps) (defBody s_are_steps) (defScope s_are_steps) .none kV doc pm an cdv ct), osl⟩) (c : PySem.W.codeIn K cdv "are_steps" = true) (k : PySem.W.keepIn K (.ref f) = true) : DefAt K mg "are_steps" s_are_steps ["table", "thing"] :=
  ⟨f, _, fun_mk (st := s_are_steps) l c k, PySem.W.mg_of X G a, (fun_mk (x := "are_steps") (st := s_are_steps) l c k).binds (ps := ["table", "thing"]) fun _ _ _ _ _ _ us hl => match us, hl with | [_, _], _ => rfl⟩
theorem mk_is_some_way (X : K.In h) (G : h.Ns mainGlobals mg) (a : PySem.W.nsIn K mainGlobals "is_some_way" = some (some (.ref f))) (l : K.lookup f = some ⟨oc, od, .func (PySem.W.fnOf "is_some_way" "is_some_way" (defArgs s_is_some_way) (defBody s_is_some_way) (defScope s_is_some_way) .none kV doc pm an cdv ct), osl⟩) (c : PySem.W.codeIn K cdv "is_some_way" = true) (k : PySem.W.keepIn K (.ref f) = true) : DefAt K mg "is_some_way" s_is_some_way ["table", "thing"] :=
  ⟨f, _, fun_mk (st := s_is_some_way) l c k, PySem.W.mg_of X G a, (fun_mk (x := "is_some_way") (st := s_is_some_way) l c k).binds (ps := ["table", "thing"]) fun _ _ _ _ _ _ us hl => match us, hl with | [_, _], _ => rfl⟩
theorem mk_is_way (X : K.In h) (G : h.Ns mainGlobals mg) (a : PySem.W.nsIn K mainGlobals "is_way" = some (some (.ref f))) (l : K.lookup f = some ⟨oc, od, .func (PySem.W.fnOf "is_way" "is_way" (defArgs s_is_way) (defBody s_is_way) (defScope s_is_way) .none kV doc pm an cdv ct), osl⟩) (c : PySem.W.codeIn K cdv "is_way" = true) (k : PySem.W.keepIn K (.ref f) = true) : DefAt K mg "is_way" s_is_way ["table", "row", "column", "thing"] :=
  ⟨f, _, fun_mk (st := s_is_way) l c k, PySem.W.mg_of X G a, (fun_mk (x := "is_way") (st := s_is_way) l c k).binds (ps := ["table", "row", "column", "thing"]) fun _ _ _ _ _ _ us hl => match us, hl with | [_, _, _, _], _ => rfl⟩
theorem mk_told_by (X : K.In h) (G : h.Ns mainGlobals mg) (a : PySem.W.nsIn K mainGlobals "told_by" = some (some (.ref f))) (l : K.lookup f = some ⟨oc, od, .func (PySem.W.fnOf "told_by" "told_by" (defArgs s_told_by) (defBody s_told_by) (defScope s_told_by) .none kV doc pm an cdv ct), osl⟩) (c : PySem.W.codeIn K cdv "told_by" = true) (k : PySem.W.keepIn K (.ref f) = true) : DefAt K mg "told_by" s_told_by ["table", "boxes"] :=
  ⟨f, _, fun_mk (st := s_told_by) l c k, PySem.W.mg_of X G a, (fun_mk (x := "told_by") (st := s_told_by) l c k).binds (ps := ["table", "boxes"]) fun _ _ _ _ _ _ us hl => match us, hl with | [_, _], _ => rfl⟩
theorem mk_by_way (X : K.In h) (G : h.Ns mainGlobals mg) (a : PySem.W.nsIn K mainGlobals "by_way" = some (some (.ref f))) (l : K.lookup f = some ⟨oc, od, .func (PySem.W.fnOf "by_way" "by_way" (defArgs s_by_way) (defBody s_by_way) (defScope s_by_way) .none kV doc pm an cdv ct), osl⟩) (c : PySem.W.codeIn K cdv "by_way" = true) (k : PySem.W.keepIn K (.ref f) = true) : DefAt K mg "by_way" s_by_way ["table", "way"] :=
  ⟨f, _, fun_mk (st := s_by_way) l c k, PySem.W.mg_of X G a, (fun_mk (x := "by_way") (st := s_by_way) l c k).binds (ps := ["table", "way"]) fun _ _ _ _ _ _ us hl => match us, hl with | [_, _], _ => rfl⟩
theorem mk_law_pool (X : K.In h) (G : h.Ns mainGlobals mg) (a : PySem.W.nsIn K mainGlobals "_law_pool" = some (some (.ref f))) (l : K.lookup f = some ⟨oc, od, .func (PySem.W.fnOf "_law_pool" "_law_pool" (defArgs s_law_pool) (defBody s_law_pool) (defScope s_law_pool) .none kV doc pm an cdv ct), osl⟩) (c : PySem.W.codeIn K cdv "_law_pool" = true) (k : PySem.W.keepIn K (.ref f) = true) : DefAt K mg "_law_pool" s_law_pool ["_law_script"] :=
  ⟨f, _, fun_mk (st := s_law_pool) l c k, PySem.W.mg_of X G a, (fun_mk (x := "_law_pool") (st := s_law_pool) l c k).binds (ps := ["_law_script"]) fun _ _ _ _ _ _ us hl => match us, hl with | [_], _ => rfl⟩
theorem mk_law_draw (X : K.In h) (G : h.Ns mainGlobals mg) (a : PySem.W.nsIn K mainGlobals "_law_draw" = some (some (.ref f))) (l : K.lookup f = some ⟨oc, od, .func (PySem.W.fnOf "_law_draw" "_law_draw" (defArgs s_law_draw) (defBody s_law_draw) (defScope s_law_draw) .none kV doc pm an cdv ct), osl⟩) (c : PySem.W.codeIn K cdv "_law_draw" = true) (k : PySem.W.keepIn K (.ref f) = true) : DefAt K mg "_law_draw" s_law_draw ["_law_pool_here", "_law_many"] :=
  ⟨f, _, fun_mk (st := s_law_draw) l c k, PySem.W.mg_of X G a, (fun_mk (x := "_law_draw") (st := s_law_draw) l c k).binds (ps := ["_law_pool_here", "_law_many"]) fun _ _ _ _ _ _ us hl => match us, hl with | [_, _], _ => rfl⟩
theorem mk_law_flag (X : K.In h) (G : h.Ns mainGlobals mg) (a : PySem.W.nsIn K mainGlobals "_law_flag" = some (some (.ref f))) (l : K.lookup f = some ⟨oc, od, .func (PySem.W.fnOf "_law_flag" "_law_flag" (defArgs s_law_flag) (defBody s_law_flag) (defScope s_law_flag) .none kV doc pm an cdv ct), osl⟩) (c : PySem.W.codeIn K cdv "_law_flag" = true) (k : PySem.W.keepIn K (.ref f) = true) : DefAt K mg "_law_flag" s_law_flag ["_law_told_here", "_law_due"] :=
  ⟨f, _, fun_mk (st := s_law_flag) l c k, PySem.W.mg_of X G a, (fun_mk (x := "_law_flag") (st := s_law_flag) l c k).binds (ps := ["_law_told_here", "_law_due"]) fun _ _ _ _ _ _ us hl => match us, hl with | [_, _], _ => rfl⟩
theorem mk_law_form (X : K.In h) (G : h.Ns mainGlobals mg) (a : PySem.W.nsIn K mainGlobals "_law_form" = some (some (.ref f))) (l : K.lookup f = some ⟨oc, od, .func (PySem.W.fnOf "_law_form" "_law_form" (defArgs s_law_form) (defBody s_law_form) (defScope s_law_form) .none kV doc pm an cdv ct), osl⟩) (c : PySem.W.codeIn K cdv "_law_form" = true) (k : PySem.W.keepIn K (.ref f) = true) : DefAt K mg "_law_form" s_law_form ["_law_pool_here", "_law_most"] :=
  ⟨f, _, fun_mk (st := s_law_form) l c k, PySem.W.mg_of X G a, (fun_mk (x := "_law_form") (st := s_law_form) l c k).binds (ps := ["_law_pool_here", "_law_most"]) fun _ _ _ _ _ _ us hl => match us, hl with | [_, _], _ => rfl⟩
theorem mk_law_holes (X : K.In h) (G : h.Ns mainGlobals mg) (a : PySem.W.nsIn K mainGlobals "_law_holes" = some (some (.ref f))) (l : K.lookup f = some ⟨oc, od, .func (PySem.W.fnOf "_law_holes" "_law_holes" (defArgs s_law_holes) (defBody s_law_holes) (defScope s_law_holes) .none kV doc pm an cdv ct), osl⟩) (c : PySem.W.codeIn K cdv "_law_holes" = true) (k : PySem.W.keepIn K (.ref f) = true) : DefAt K mg "_law_holes" s_law_holes ["_law_pool_here", "_law_boxes_here"] :=
  ⟨f, _, fun_mk (st := s_law_holes) l c k, PySem.W.mg_of X G a, (fun_mk (x := "_law_holes") (st := s_law_holes) l c k).binds (ps := ["_law_pool_here", "_law_boxes_here"]) fun _ _ _ _ _ _ us hl => match us, hl with | [_, _], _ => rfl⟩
theorem mk_law_size (X : K.In h) (G : h.Ns mainGlobals mg) (a : PySem.W.nsIn K mainGlobals "_law_size" = some (some (.ref f))) (l : K.lookup f = some ⟨oc, od, .func (PySem.W.fnOf "_law_size" "_law_size" (defArgs s_law_size) (defBody s_law_size) (defScope s_law_size) .none kV doc pm an cdv ct), osl⟩) (c : PySem.W.codeIn K cdv "_law_size" = true) (k : PySem.W.keepIn K (.ref f) = true) : DefAt K mg "_law_size" s_law_size ["_law_pool_here", "_law_most"] :=
  ⟨f, _, fun_mk (st := s_law_size) l c k, PySem.W.mg_of X G a, (fun_mk (x := "_law_size") (st := s_law_size) l c k).binds (ps := ["_law_pool_here", "_law_most"]) fun _ _ _ _ _ _ us hl => match us, hl with | [_, _], _ => rfl⟩
theorem mk_law_made (X : K.In h) (G : h.Ns mainGlobals mg) (a : PySem.W.nsIn K mainGlobals "_law_made" = some (some (.ref f))) (l : K.lookup f = some ⟨oc, od, .func (PySem.W.fnOf "_law_made" "_law_made" (defArgs s_law_made) (defBody s_law_made) (defScope s_law_made) .none kV doc pm an cdv ct), osl⟩) (c : PySem.W.codeIn K cdv "_law_made" = true) (k : PySem.W.keepIn K (.ref f) = true) : DefAt K mg "_law_made" s_law_made ["_law_pool_here", "_law_most", "_law_letters"] :=
  ⟨f, _, fun_mk (st := s_law_made) l c k, PySem.W.mg_of X G a, (fun_mk (x := "_law_made") (st := s_law_made) l c k).binds (ps := ["_law_pool_here", "_law_most", "_law_letters"]) fun _ _ _ _ _ _ us hl => match us, hl with | [_, _, _], _ => rfl⟩
theorem mk_law_boxes (X : K.In h) (G : h.Ns mainGlobals mg) (a : PySem.W.nsIn K mainGlobals "_law_boxes" = some (some (.ref f))) (l : K.lookup f = some ⟨oc, od, .func (PySem.W.fnOf "_law_boxes" "_law_boxes" (defArgs s_law_boxes) (defBody s_law_boxes) (defScope s_law_boxes) .none kV doc pm an cdv ct), osl⟩) (c : PySem.W.codeIn K cdv "_law_boxes" = true) (k : PySem.W.keepIn K (.ref f) = true) : DefAt K mg "_law_boxes" s_law_boxes ["_law_pool_here", "_law_most"] :=
  ⟨f, _, fun_mk (st := s_law_boxes) l c k, PySem.W.mg_of X G a, (fun_mk (x := "_law_boxes") (st := s_law_boxes) l c k).binds (ps := ["_law_pool_here", "_law_most"]) fun _ _ _ _ _ _ us hl => match us, hl with | [_, _], _ => rfl⟩
theorem mk_law_owing (X : K.In h) (G : h.Ns mainGlobals mg) (a : PySem.W.nsIn K mainGlobals "_law_owing" = some (some (.ref f))) (l : K.lookup f = some ⟨oc, od, .func (PySem.W.fnOf "_law_owing" "_law_owing" (defArgs s_law_owing) (defBody s_law_owing) (defScope s_law_owing) .none kV doc pm an cdv ct), osl⟩) (c : PySem.W.codeIn K cdv "_law_owing" = true) (k : PySem.W.keepIn K (.ref f) = true) : DefAt K mg "_law_owing" s_law_owing ["_law_pool_here", "_law_most"] :=
  ⟨f, _, fun_mk (st := s_law_owing) l c k, PySem.W.mg_of X G a, (fun_mk (x := "_law_owing") (st := s_law_owing) l c k).binds (ps := ["_law_pool_here", "_law_most"]) fun _ _ _ _ _ _ us hl => match us, hl with | [_, _], _ => rfl⟩
theorem mk_law_signed (X : K.In h) (G : h.Ns mainGlobals mg) (a : PySem.W.nsIn K mainGlobals "_law_signed" = some (some (.ref f))) (l : K.lookup f = some ⟨oc, od, .func (PySem.W.fnOf "_law_signed" "_law_signed" (defArgs s_law_signed) (defBody s_law_signed) (defScope s_law_signed) .none kV doc pm an cdv ct), osl⟩) (c : PySem.W.codeIn K cdv "_law_signed" = true) (k : PySem.W.keepIn K (.ref f) = true) : DefAt K mg "_law_signed" s_law_signed ["_law_pool_here"] :=
  ⟨f, _, fun_mk (st := s_law_signed) l c k, PySem.W.mg_of X G a, (fun_mk (x := "_law_signed") (st := s_law_signed) l c k).binds (ps := ["_law_pool_here"]) fun _ _ _ _ _ _ us hl => match us, hl with | [_], _ => rfl⟩
theorem mk_law_struck (X : K.In h) (G : h.Ns mainGlobals mg) (a : PySem.W.nsIn K mainGlobals "_law_struck" = some (some (.ref f))) (l : K.lookup f = some ⟨oc, od, .func (PySem.W.fnOf "_law_struck" "_law_struck" (defArgs s_law_struck) (defBody s_law_struck) (defScope s_law_struck) .none kV doc pm an cdv ct), osl⟩) (c : PySem.W.codeIn K cdv "_law_struck" = true) (k : PySem.W.keepIn K (.ref f) = true) : DefAt K mg "_law_struck" s_law_struck ["_law_row"] :=
  ⟨f, _, fun_mk (st := s_law_struck) l c k, PySem.W.mg_of X G a, (fun_mk (x := "_law_struck") (st := s_law_struck) l c k).binds (ps := ["_law_row"]) fun _ _ _ _ _ _ us hl => match us, hl with | [_], _ => rfl⟩
theorem mk_law_undone (X : K.In h) (G : h.Ns mainGlobals mg) (a : PySem.W.nsIn K mainGlobals "_law_undone" = some (some (.ref f))) (l : K.lookup f = some ⟨oc, od, .func (PySem.W.fnOf "_law_undone" "_law_undone" (defArgs s_law_undone) (defBody s_law_undone) (defScope s_law_undone) .none kV doc pm an cdv ct), osl⟩) (c : PySem.W.codeIn K cdv "_law_undone" = true) (k : PySem.W.keepIn K (.ref f) = true) : DefAt K mg "_law_undone" s_law_undone ["_law_row"] :=
  ⟨f, _, fun_mk (st := s_law_undone) l c k, PySem.W.mg_of X G a, (fun_mk (x := "_law_undone") (st := s_law_undone) l c k).binds (ps := ["_law_row"]) fun _ _ _ _ _ _ us hl => match us, hl with | [_], _ => rfl⟩
theorem mk_law_told (X : K.In h) (G : h.Ns mainGlobals mg) (a : PySem.W.nsIn K mainGlobals "_law_told" = some (some (.ref f))) (l : K.lookup f = some ⟨oc, od, .func (PySem.W.fnOf "_law_told" "_law_told" (defArgs s_law_told) (defBody s_law_told) (defScope s_law_told) .none kV doc pm an cdv ct), osl⟩) (c : PySem.W.codeIn K cdv "_law_told" = true) (k : PySem.W.keepIn K (.ref f) = true) : DefAt K mg "_law_told" s_law_told ["_law_boxes_here"] :=
  ⟨f, _, fun_mk (st := s_law_told) l c k, PySem.W.mg_of X G a, (fun_mk (x := "_law_told") (st := s_law_told) l c k).binds (ps := ["_law_boxes_here"]) fun _ _ _ _ _ _ us hl => match us, hl with | [_], _ => rfl⟩
theorem mk_law_tells (X : K.In h) (G : h.Ns mainGlobals mg) (a : PySem.W.nsIn K mainGlobals "_law_tells" = some (some (.ref f))) (l : K.lookup f = some ⟨oc, od, .func (PySem.W.fnOf "_law_tells" "_law_tells" (defArgs s_law_tells) (defBody s_law_tells) (defScope s_law_tells) .none kV doc pm an cdv ct), osl⟩) (c : PySem.W.codeIn K cdv "_law_tells" = true) (k : PySem.W.keepIn K (.ref f) = true) : DefAt K mg "_law_tells" s_law_tells ["_law_boxes_here", "_law_way"] :=
  ⟨f, _, fun_mk (st := s_law_tells) l c k, PySem.W.mg_of X G a, (fun_mk (x := "_law_tells") (st := s_law_tells) l c k).binds (ps := ["_law_boxes_here", "_law_way"]) fun _ _ _ _ _ _ us hl => match us, hl with | [_, _], _ => rfl⟩
theorem mk_law_is_box (X : K.In h) (G : h.Ns mainGlobals mg) (a : PySem.W.nsIn K mainGlobals "_law_is_box" = some (some (.ref f))) (l : K.lookup f = some ⟨oc, od, .func (PySem.W.fnOf "_law_is_box" "_law_is_box" (defArgs s_law_is_box) (defBody s_law_is_box) (defScope s_law_is_box) .none kV doc pm an cdv ct), osl⟩) (c : PySem.W.codeIn K cdv "_law_is_box" = true) (k : PySem.W.keepIn K (.ref f) = true) : DefAt K mg "_law_is_box" s_law_is_box ["_law_boxes_here", "_law_thing"] :=
  ⟨f, _, fun_mk (st := s_law_is_box) l c k, PySem.W.mg_of X G a, (fun_mk (x := "_law_is_box") (st := s_law_is_box) l c k).binds (ps := ["_law_boxes_here", "_law_thing"]) fun _ _ _ _ _ _ us hl => match us, hl with | [_, _], _ => rfl⟩
theorem mk_law_goes (X : K.In h) (G : h.Ns mainGlobals mg) (a : PySem.W.nsIn K mainGlobals "_law_goes" = some (some (.ref f))) (l : K.lookup f = some ⟨oc, od, .func (PySem.W.fnOf "_law_goes" "_law_goes" (defArgs s_law_goes) (defBody s_law_goes) (defScope s_law_goes) .none kV doc pm an cdv ct), osl⟩) (c : PySem.W.codeIn K cdv "_law_goes" = true) (k : PySem.W.keepIn K (.ref f) = true) : DefAt K mg "_law_goes" s_law_goes ["_law_boxes_here", "_law_thing"] :=
  ⟨f, _, fun_mk (st := s_law_goes) l c k, PySem.W.mg_of X G a, (fun_mk (x := "_law_goes") (st := s_law_goes) l c k).binds (ps := ["_law_boxes_here", "_law_thing"]) fun _ _ _ _ _ _ us hl => match us, hl with | [_, _], _ => rfl⟩
theorem mk_law_is_way (X : K.In h) (G : h.Ns mainGlobals mg) (a : PySem.W.nsIn K mainGlobals "_law_is_way" = some (some (.ref f))) (l : K.lookup f = some ⟨oc, od, .func (PySem.W.fnOf "_law_is_way" "_law_is_way" (defArgs s_law_is_way) (defBody s_law_is_way) (defScope s_law_is_way) .none kV doc pm an cdv ct), osl⟩) (c : PySem.W.codeIn K cdv "_law_is_way" = true) (k : PySem.W.keepIn K (.ref f) = true) : DefAt K mg "_law_is_way" s_law_is_way ["_law_boxes_here", "_law_row", "_law_column", "_law_thing"] :=
  ⟨f, _, fun_mk (st := s_law_is_way) l c k, PySem.W.mg_of X G a, (fun_mk (x := "_law_is_way") (st := s_law_is_way) l c k).binds (ps := ["_law_boxes_here", "_law_row", "_law_column", "_law_thing"]) fun _ _ _ _ _ _ us hl => match us, hl with | [_, _, _, _], _ => rfl⟩
theorem mk_law_far (X : K.In h) (G : h.Ns mainGlobals mg) (a : PySem.W.nsIn K mainGlobals "_law_far" = some (some (.ref f))) (l : K.lookup f = some ⟨oc, od, .func (PySem.W.fnOf "_law_far" "_law_far" (defArgs s_law_far) (defBody s_law_far) (defScope s_law_far) .none kV doc pm an cdv ct), osl⟩) (c : PySem.W.codeIn K cdv "_law_far" = true) (k : PySem.W.keepIn K (.ref f) = true) : DefAt K mg "_law_far" s_law_far ["_law_boxes_here", "_law_row"] :=
  ⟨f, _, fun_mk (st := s_law_far) l c k, PySem.W.mg_of X G a, (fun_mk (x := "_law_far") (st := s_law_far) l c k).binds (ps := ["_law_boxes_here", "_law_row"]) fun _ _ _ _ _ _ us hl => match us, hl with | [_, _], _ => rfl⟩
theorem mk_law_walk (X : K.In h) (G : h.Ns mainGlobals mg) (a : PySem.W.nsIn K mainGlobals "_law_walk" = some (some (.ref f))) (l : K.lookup f = some ⟨oc, od, .func (PySem.W.fnOf "_law_walk" "_law_walk" (defArgs s_law_walk) (defBody s_law_walk) (defScope s_law_walk) .none kV doc pm an cdv ct), osl⟩) (c : PySem.W.codeIn K cdv "_law_walk" = true) (k : PySem.W.keepIn K (.ref f) = true) : DefAt K mg "_law_walk" s_law_walk ["_law_pool_here", "_law_boxes_here", "_law_row", "_law_many"] :=
  ⟨f, _, fun_mk (st := s_law_walk) l c k, PySem.W.mg_of X G a, (fun_mk (x := "_law_walk") (st := s_law_walk) l c k).binds (ps := ["_law_pool_here", "_law_boxes_here", "_law_row", "_law_many"]) fun _ _ _ _ _ _ us hl => match us, hl with | [_, _, _, _], _ => rfl⟩
theorem mk_law_right (X : K.In h) (G : h.Ns mainGlobals mg) (a : PySem.W.nsIn K mainGlobals "_law_right" = some (some (.ref f))) (l : K.lookup f = some ⟨oc, od, .func (PySem.W.fnOf "_law_right" "_law_right" (defArgs s_law_right) (defBody s_law_right) (defScope s_law_right) .none kV doc pm an cdv ct), osl⟩) (c : PySem.W.codeIn K cdv "_law_right" = true) (k : PySem.W.keepIn K (.ref f) = true) : DefAt K mg "_law_right" s_law_right ["_law_boxes_here", "_law_table", "_law_row", "_law_column", "_law_columns"] :=
  ⟨f, _, fun_mk (st := s_law_right) l c k, PySem.W.mg_of X G a, (fun_mk (x := "_law_right") (st := s_law_right) l c k).binds (ps := ["_law_boxes_here", "_law_table", "_law_row", "_law_column", "_law_columns"]) fun _ _ _ _ _ _ us hl => match us, hl with | [_, _, _, _, _], _ => rfl⟩
theorem mk_law (X : K.In h) (G : h.Ns mainGlobals mg) (a : PySem.W.nsIn K mainGlobals "law" = some (some (.ref f))) (l : K.lookup f = some ⟨oc, od, .func (PySem.W.fnOf "law" "law" (defArgs s_law) (defBody s_law) (defScope s_law) .none kV doc pm an cdv ct), osl⟩) (c : PySem.W.codeIn K cdv "law" = true) (k : PySem.W.keepIn K (.ref f) = true) : DefAt K mg "law" s_law ["_law_script"] :=
  ⟨f, _, fun_mk (st := s_law) l c k, PySem.W.mg_of X G a, (fun_mk (x := "law") (st := s_law) l c k).binds (ps := ["_law_script"]) fun _ _ _ _ _ _ us hl => match us, hl with | [_], _ => rfl⟩
end
/-! ### what the top has written (each a fact that k_is finds) -/
theorem all_mk {l : PySem.W.OpenLaw} {w : World} {K : PySem.W.Frag} {h : Heap} {mg : Str → Option Value} {fa C : Addr} {tkL tkR tkM : Tok} (X : K.In h) (G : h.Ns mainGlobals mg) (hfa : mg "law" = some (.ref fa))
    {f_is_integer : Addr} {oc_is_integer kV_is_integer dc_is_integer pm_is_integer cd_is_integer ct_is_integer : Value} {od_is_integer an_is_integer : Option Addr} {sl_is_integer : Array (Option Value)}
    {f_is_within : Addr} {oc_is_within kV_is_within dc_is_within pm_is_within cd_is_within ct_is_within : Value} {od_is_within an_is_within : Option Addr} {sl_is_within : Array (Option Value)}
    {f_is_pair : Addr} {oc_is_pair kV_is_pair dc_is_pair pm_is_pair cd_is_pair ct_is_pair : Value} {od_is_pair an_is_pair : Option Addr} {sl_is_pair : Array (Option Value)}
    {f_is_word : Addr} {oc_is_word kV_is_word dc_is_word pm_is_word cd_is_word ct_is_word : Value} {od_is_word an_is_word : Option Addr} {sl_is_word : Array (Option Value)}
    {f_is_text : Addr} {oc_is_text kV_is_text dc_is_text pm_is_text cd_is_text ct_is_text : Value} {od_is_text an_is_text : Option Addr} {sl_is_text : Array (Option Value)}
    {f_is_form : Addr} {oc_is_form kV_is_form dc_is_form pm_is_form cd_is_form ct_is_form : Value} {od_is_form an_is_form : Option Addr} {sl_is_form : Array (Option Value)}
    {f_strike : Addr} {oc_strike kV_strike dc_strike pm_strike cd_strike ct_strike : Value} {od_strike an_strike : Option Addr} {sl_strike : Array (Option Value)}
    {f_inverse : Addr} {oc_inverse kV_inverse dc_inverse pm_inverse cd_inverse ct_inverse : Value} {od_inverse an_inverse : Option Addr} {sl_inverse : Array (Option Value)}
    {f_product : Addr} {oc_product kV_product dc_product pm_product cd_product ct_product : Value} {od_product an_product : Option Addr} {sl_product : Array (Option Value)}
    {f_is_row : Addr} {oc_is_row kV_is_row dc_is_row pm_is_row cd_is_row ct_is_row : Value} {od_is_row an_is_row : Option Addr} {sl_is_row : Array (Option Value)}
    {f_is_box_text : Addr} {oc_is_box_text kV_is_box_text dc_is_box_text pm_is_box_text cd_is_box_text ct_is_box_text : Value} {od_is_box_text an_is_box_text : Option Addr} {sl_is_box_text : Array (Option Value)}
    {f_t_init : Addr} {oc_t_init kV_t_init dc_t_init pm_t_init cd_t_init ct_t_init : Value} {od_t_init an_t_init : Option Addr} {sl_t_init : Array (Option Value)}
    {f_t_keep : Addr} {oc_t_keep kV_t_keep dc_t_keep pm_t_keep cd_t_keep ct_t_keep : Value} {od_t_keep an_t_keep : Option Addr} {sl_t_keep : Array (Option Value)}
    {f_is_box : Addr} {oc_is_box kV_is_box dc_is_box pm_is_box cd_is_box ct_is_box : Value} {od_is_box an_is_box : Option Addr} {sl_is_box : Array (Option Value)}
    {f_spread_from : Addr} {oc_spread_from kV_spread_from dc_spread_from pm_spread_from cd_spread_from ct_spread_from : Value} {od_spread_from an_spread_from : Option Addr} {sl_spread_from : Array (Option Value)}
    {f_check_place : Addr} {oc_check_place kV_check_place dc_check_place pm_check_place cd_check_place ct_check_place : Value} {od_check_place an_check_place : Option Addr} {sl_check_place : Array (Option Value)}
    {f_boxes_back : Addr} {oc_boxes_back kV_boxes_back dc_boxes_back pm_boxes_back cd_boxes_back ct_boxes_back : Value} {od_boxes_back an_boxes_back : Option Addr} {sl_boxes_back : Array (Option Value)}
    {f_way_in : Addr} {oc_way_in kV_way_in dc_way_in pm_way_in cd_way_in ct_way_in : Value} {od_way_in an_way_in : Option Addr} {sl_way_in : Array (Option Value)}
    {f_way_between : Addr} {oc_way_between kV_way_between dc_way_between pm_way_between cd_way_between ct_way_between : Value} {od_way_between an_way_between : Option Addr} {sl_way_between : Array (Option Value)}
    {f_are_steps : Addr} {oc_are_steps kV_are_steps dc_are_steps pm_are_steps cd_are_steps ct_are_steps : Value} {od_are_steps an_are_steps : Option Addr} {sl_are_steps : Array (Option Value)}
    {f_is_some_way : Addr} {oc_is_some_way kV_is_some_way dc_is_some_way pm_is_some_way cd_is_some_way ct_is_some_way : Value} {od_is_some_way an_is_some_way : Option Addr} {sl_is_some_way : Array (Option Value)}
    {f_is_way : Addr} {oc_is_way kV_is_way dc_is_way pm_is_way cd_is_way ct_is_way : Value} {od_is_way an_is_way : Option Addr} {sl_is_way : Array (Option Value)}
    {f_told_by : Addr} {oc_told_by kV_told_by dc_told_by pm_told_by cd_told_by ct_told_by : Value} {od_told_by an_told_by : Option Addr} {sl_told_by : Array (Option Value)}
    {f_by_way : Addr} {oc_by_way kV_by_way dc_by_way pm_by_way cd_by_way ct_by_way : Value} {od_by_way an_by_way : Option Addr} {sl_by_way : Array (Option Value)}
    {f_law_pool : Addr} {oc_law_pool kV_law_pool dc_law_pool pm_law_pool cd_law_pool ct_law_pool : Value} {od_law_pool an_law_pool : Option Addr} {sl_law_pool : Array (Option Value)}
    {f_law_draw : Addr} {oc_law_draw kV_law_draw dc_law_draw pm_law_draw cd_law_draw ct_law_draw : Value} {od_law_draw an_law_draw : Option Addr} {sl_law_draw : Array (Option Value)}
    {f_law_flag : Addr} {oc_law_flag kV_law_flag dc_law_flag pm_law_flag cd_law_flag ct_law_flag : Value} {od_law_flag an_law_flag : Option Addr} {sl_law_flag : Array (Option Value)}
    {f_law_form : Addr} {oc_law_form kV_law_form dc_law_form pm_law_form cd_law_form ct_law_form : Value} {od_law_form an_law_form : Option Addr} {sl_law_form : Array (Option Value)}
    {f_law_holes : Addr} {oc_law_holes kV_law_holes dc_law_holes pm_law_holes cd_law_holes ct_law_holes : Value} {od_law_holes an_law_holes : Option Addr} {sl_law_holes : Array (Option Value)}
    {f_law_size : Addr} {oc_law_size kV_law_size dc_law_size pm_law_size cd_law_size ct_law_size : Value} {od_law_size an_law_size : Option Addr} {sl_law_size : Array (Option Value)}
    {f_law_made : Addr} {oc_law_made kV_law_made dc_law_made pm_law_made cd_law_made ct_law_made : Value} {od_law_made an_law_made : Option Addr} {sl_law_made : Array (Option Value)}
    {f_law_boxes : Addr} {oc_law_boxes kV_law_boxes dc_law_boxes pm_law_boxes cd_law_boxes ct_law_boxes : Value} {od_law_boxes an_law_boxes : Option Addr} {sl_law_boxes : Array (Option Value)}
    {f_law_owing : Addr} {oc_law_owing kV_law_owing dc_law_owing pm_law_owing cd_law_owing ct_law_owing : Value} {od_law_owing an_law_owing : Option Addr} {sl_law_owing : Array (Option Value)}
    {f_law_signed : Addr} {oc_law_signed kV_law_signed dc_law_signed pm_law_signed cd_law_signed ct_law_signed : Value} {od_law_signed an_law_signed : Option Addr} {sl_law_signed : Array (Option Value)}
    {f_law_struck : Addr} {oc_law_struck kV_law_struck dc_law_struck pm_law_struck cd_law_struck ct_law_struck : Value} {od_law_struck an_law_struck : Option Addr} {sl_law_struck : Array (Option Value)}
    {f_law_undone : Addr} {oc_law_undone kV_law_undone dc_law_undone pm_law_undone cd_law_undone ct_law_undone : Value} {od_law_undone an_law_undone : Option Addr} {sl_law_undone : Array (Option Value)}
    {f_law_told : Addr} {oc_law_told kV_law_told dc_law_told pm_law_told cd_law_told ct_law_told : Value} {od_law_told an_law_told : Option Addr} {sl_law_told : Array (Option Value)}
    {f_law_tells : Addr} {oc_law_tells kV_law_tells dc_law_tells pm_law_tells cd_law_tells ct_law_tells : Value} {od_law_tells an_law_tells : Option Addr} {sl_law_tells : Array (Option Value)}
    {f_law_is_box : Addr} {oc_law_is_box kV_law_is_box dc_law_is_box pm_law_is_box cd_law_is_box ct_law_is_box : Value} {od_law_is_box an_law_is_box : Option Addr} {sl_law_is_box : Array (Option Value)}
    {f_law_goes : Addr} {oc_law_goes kV_law_goes dc_law_goes pm_law_goes cd_law_goes ct_law_goes : Value} {od_law_goes an_law_goes : Option Addr} {sl_law_goes : Array (Option Value)}
    {f_law_is_way : Addr} {oc_law_is_way kV_law_is_way dc_law_is_way pm_law_is_way cd_law_is_way ct_law_is_way : Value} {od_law_is_way an_law_is_way : Option Addr} {sl_law_is_way : Array (Option Value)}
    {f_law_far : Addr} {oc_law_far kV_law_far dc_law_far pm_law_far cd_law_far ct_law_far : Value} {od_law_far an_law_far : Option Addr} {sl_law_far : Array (Option Value)}
    {f_law_walk : Addr} {oc_law_walk kV_law_walk dc_law_walk pm_law_walk cd_law_walk ct_law_walk : Value} {od_law_walk an_law_walk : Option Addr} {sl_law_walk : Array (Option Value)}
    {f_law_right : Addr} {oc_law_right kV_law_right dc_law_right pm_law_right cd_law_right ct_law_right : Value} {od_law_right an_law_right : Option Addr} {sl_law_right : Array (Option Value)}
    {f_law : Addr} {oc_law kV_law dc_law pm_law cd_law ct_law : Value} {od_law an_law : Option Addr} {sl_law : Array (Option Value)}
    (aC : PySem.W.nsIn K mainGlobals "Table" = some (some (.ref C)))
    (a_is_integer : PySem.W.nsIn K mainGlobals "is_integer" = some (some (.ref f_is_integer)))
    (l_is_integer : K.lookup f_is_integer = some ⟨oc_is_integer, od_is_integer, .func (PySem.W.fnOf "is_integer" "is_integer" (defArgs s_is_integer) (defBody s_is_integer) (defScope s_is_integer) .none kV_is_integer dc_is_integer pm_is_integer an_is_integer cd_is_integer ct_is_integer), sl_is_integer⟩)
    (c_is_integer : PySem.W.codeIn K cd_is_integer "is_integer" = true)
    (k_is_integer : PySem.W.keepIn K (.ref f_is_integer) = true)
    (a_is_within : PySem.W.nsIn K mainGlobals "is_within" = some (some (.ref f_is_within)))
    (l_is_within : K.lookup f_is_within = some ⟨oc_is_within, od_is_within, .func (PySem.W.fnOf "is_within" "is_within" (defArgs s_is_within) (defBody s_is_within) (defScope s_is_within) .none kV_is_within dc_is_within pm_is_within an_is_within cd_is_within ct_is_within), sl_is_within⟩)
    (c_is_within : PySem.W.codeIn K cd_is_within "is_within" = true)
    (k_is_within : PySem.W.keepIn K (.ref f_is_within) = true)
    (a_is_pair : PySem.W.nsIn K mainGlobals "is_pair" = some (some (.ref f_is_pair)))
    (l_is_pair : K.lookup f_is_pair = some ⟨oc_is_pair, od_is_pair, .func (PySem.W.fnOf "is_pair" "is_pair" (defArgs s_is_pair) (defBody s_is_pair) (defScope s_is_pair) .none kV_is_pair dc_is_pair pm_is_pair an_is_pair cd_is_pair ct_is_pair), sl_is_pair⟩)
    (c_is_pair : PySem.W.codeIn K cd_is_pair "is_pair" = true)
    (k_is_pair : PySem.W.keepIn K (.ref f_is_pair) = true)
    (a_is_word : PySem.W.nsIn K mainGlobals "is_word" = some (some (.ref f_is_word)))
    (l_is_word : K.lookup f_is_word = some ⟨oc_is_word, od_is_word, .func (PySem.W.fnOf "is_word" "is_word" (defArgs s_is_word) (defBody s_is_word) (defScope s_is_word) .none kV_is_word dc_is_word pm_is_word an_is_word cd_is_word ct_is_word), sl_is_word⟩)
    (c_is_word : PySem.W.codeIn K cd_is_word "is_word" = true)
    (k_is_word : PySem.W.keepIn K (.ref f_is_word) = true)
    (a_is_text : PySem.W.nsIn K mainGlobals "is_text" = some (some (.ref f_is_text)))
    (l_is_text : K.lookup f_is_text = some ⟨oc_is_text, od_is_text, .func (PySem.W.fnOf "is_text" "is_text" (defArgs s_is_text) (defBody s_is_text) (defScope s_is_text) .none kV_is_text dc_is_text pm_is_text an_is_text cd_is_text ct_is_text), sl_is_text⟩)
    (c_is_text : PySem.W.codeIn K cd_is_text "is_text" = true)
    (k_is_text : PySem.W.keepIn K (.ref f_is_text) = true)
    (a_is_form : PySem.W.nsIn K mainGlobals "is_form" = some (some (.ref f_is_form)))
    (l_is_form : K.lookup f_is_form = some ⟨oc_is_form, od_is_form, .func (PySem.W.fnOf "is_form" "is_form" (defArgs s_is_form) (defBody s_is_form) (defScope s_is_form) .none kV_is_form dc_is_form pm_is_form an_is_form cd_is_form ct_is_form), sl_is_form⟩)
    (c_is_form : PySem.W.codeIn K cd_is_form "is_form" = true)
    (k_is_form : PySem.W.keepIn K (.ref f_is_form) = true)
    (a_strike : PySem.W.nsIn K mainGlobals "strike" = some (some (.ref f_strike)))
    (l_strike : K.lookup f_strike = some ⟨oc_strike, od_strike, .func (PySem.W.fnOf "strike" "strike" (defArgs s_strike) (defBody s_strike) (defScope s_strike) .none kV_strike dc_strike pm_strike an_strike cd_strike ct_strike), sl_strike⟩)
    (c_strike : PySem.W.codeIn K cd_strike "strike" = true)
    (k_strike : PySem.W.keepIn K (.ref f_strike) = true)
    (a_inverse : PySem.W.nsIn K mainGlobals "inverse" = some (some (.ref f_inverse)))
    (l_inverse : K.lookup f_inverse = some ⟨oc_inverse, od_inverse, .func (PySem.W.fnOf "inverse" "inverse" (defArgs s_inverse) (defBody s_inverse) (defScope s_inverse) .none kV_inverse dc_inverse pm_inverse an_inverse cd_inverse ct_inverse), sl_inverse⟩)
    (c_inverse : PySem.W.codeIn K cd_inverse "inverse" = true)
    (k_inverse : PySem.W.keepIn K (.ref f_inverse) = true)
    (a_product : PySem.W.nsIn K mainGlobals "product" = some (some (.ref f_product)))
    (l_product : K.lookup f_product = some ⟨oc_product, od_product, .func (PySem.W.fnOf "product" "product" (defArgs s_product) (defBody s_product) (defScope s_product) .none kV_product dc_product pm_product an_product cd_product ct_product), sl_product⟩)
    (c_product : PySem.W.codeIn K cd_product "product" = true)
    (k_product : PySem.W.keepIn K (.ref f_product) = true)
    (a_is_row : PySem.W.nsIn K mainGlobals "is_row" = some (some (.ref f_is_row)))
    (l_is_row : K.lookup f_is_row = some ⟨oc_is_row, od_is_row, .func (PySem.W.fnOf "is_row" "is_row" (defArgs s_is_row) (defBody s_is_row) (defScope s_is_row) .none kV_is_row dc_is_row pm_is_row an_is_row cd_is_row ct_is_row), sl_is_row⟩)
    (c_is_row : PySem.W.codeIn K cd_is_row "is_row" = true)
    (k_is_row : PySem.W.keepIn K (.ref f_is_row) = true)
    (a_is_box_text : PySem.W.nsIn K mainGlobals "is_box_text" = some (some (.ref f_is_box_text)))
    (l_is_box_text : K.lookup f_is_box_text = some ⟨oc_is_box_text, od_is_box_text, .func (PySem.W.fnOf "is_box_text" "is_box_text" (defArgs s_is_box_text) (defBody s_is_box_text) (defScope s_is_box_text) .none kV_is_box_text dc_is_box_text pm_is_box_text an_is_box_text cd_is_box_text ct_is_box_text), sl_is_box_text⟩)
    (c_is_box_text : PySem.W.codeIn K cd_is_box_text "is_box_text" = true)
    (k_is_box_text : PySem.W.keepIn K (.ref f_is_box_text) = true)
    (a_t_init : PySem.W.findIn K (.ref C) "__init__" = some (some (.ref f_t_init)))
    (i_t_init : PySem.W.isFn K (.ref f_t_init) = true)
    (l_t_init : K.lookup f_t_init = some ⟨oc_t_init, od_t_init, .func (PySem.W.fnOf "__init__" "Table.__init__" (defArgs s_t_init) (defBody s_t_init) (defScope s_t_init) .none kV_t_init dc_t_init pm_t_init an_t_init cd_t_init ct_t_init), sl_t_init⟩)
    (c_t_init : PySem.W.codeIn K cd_t_init "Table.__init__" = true)
    (k_t_init : PySem.W.keepIn K (.ref f_t_init) = true)
    (a_t_keep : PySem.W.findIn K (.ref C) "keep" = some (some (.ref f_t_keep)))
    (i_t_keep : PySem.W.isFn K (.ref f_t_keep) = true)
    (l_t_keep : K.lookup f_t_keep = some ⟨oc_t_keep, od_t_keep, .func (PySem.W.fnOf "keep" "Table.keep" (defArgs s_t_keep) (defBody s_t_keep) (defScope s_t_keep) .none kV_t_keep dc_t_keep pm_t_keep an_t_keep cd_t_keep ct_t_keep), sl_t_keep⟩)
    (c_t_keep : PySem.W.codeIn K cd_t_keep "Table.keep" = true)
    (k_t_keep : PySem.W.keepIn K (.ref f_t_keep) = true)
    (a_is_box : PySem.W.nsIn K mainGlobals "is_box" = some (some (.ref f_is_box)))
    (l_is_box : K.lookup f_is_box = some ⟨oc_is_box, od_is_box, .func (PySem.W.fnOf "is_box" "is_box" (defArgs s_is_box) (defBody s_is_box) (defScope s_is_box) .none kV_is_box dc_is_box pm_is_box an_is_box cd_is_box ct_is_box), sl_is_box⟩)
    (c_is_box : PySem.W.codeIn K cd_is_box "is_box" = true)
    (k_is_box : PySem.W.keepIn K (.ref f_is_box) = true)
    (a_spread_from : PySem.W.nsIn K mainGlobals "spread_from" = some (some (.ref f_spread_from)))
    (l_spread_from : K.lookup f_spread_from = some ⟨oc_spread_from, od_spread_from, .func (PySem.W.fnOf "spread_from" "spread_from" (defArgs s_spread_from) (defBody s_spread_from) (defScope s_spread_from) .none kV_spread_from dc_spread_from pm_spread_from an_spread_from cd_spread_from ct_spread_from), sl_spread_from⟩)
    (c_spread_from : PySem.W.codeIn K cd_spread_from "spread_from" = true)
    (k_spread_from : PySem.W.keepIn K (.ref f_spread_from) = true)
    (a_check_place : PySem.W.nsIn K mainGlobals "check_place" = some (some (.ref f_check_place)))
    (l_check_place : K.lookup f_check_place = some ⟨oc_check_place, od_check_place, .func (PySem.W.fnOf "check_place" "check_place" (defArgs s_check_place) (defBody s_check_place) (defScope s_check_place) .none kV_check_place dc_check_place pm_check_place an_check_place cd_check_place ct_check_place), sl_check_place⟩)
    (c_check_place : PySem.W.codeIn K cd_check_place "check_place" = true)
    (k_check_place : PySem.W.keepIn K (.ref f_check_place) = true)
    (a_boxes_back : PySem.W.nsIn K mainGlobals "boxes_back" = some (some (.ref f_boxes_back)))
    (l_boxes_back : K.lookup f_boxes_back = some ⟨oc_boxes_back, od_boxes_back, .func (PySem.W.fnOf "boxes_back" "boxes_back" (defArgs s_boxes_back) (defBody s_boxes_back) (defScope s_boxes_back) .none kV_boxes_back dc_boxes_back pm_boxes_back an_boxes_back cd_boxes_back ct_boxes_back), sl_boxes_back⟩)
    (c_boxes_back : PySem.W.codeIn K cd_boxes_back "boxes_back" = true)
    (k_boxes_back : PySem.W.keepIn K (.ref f_boxes_back) = true)
    (a_way_in : PySem.W.nsIn K mainGlobals "way_in" = some (some (.ref f_way_in)))
    (l_way_in : K.lookup f_way_in = some ⟨oc_way_in, od_way_in, .func (PySem.W.fnOf "way_in" "way_in" (defArgs s_way_in) (defBody s_way_in) (defScope s_way_in) .none kV_way_in dc_way_in pm_way_in an_way_in cd_way_in ct_way_in), sl_way_in⟩)
    (c_way_in : PySem.W.codeIn K cd_way_in "way_in" = true)
    (k_way_in : PySem.W.keepIn K (.ref f_way_in) = true)
    (a_way_between : PySem.W.nsIn K mainGlobals "way_between" = some (some (.ref f_way_between)))
    (l_way_between : K.lookup f_way_between = some ⟨oc_way_between, od_way_between, .func (PySem.W.fnOf "way_between" "way_between" (defArgs s_way_between) (defBody s_way_between) (defScope s_way_between) .none kV_way_between dc_way_between pm_way_between an_way_between cd_way_between ct_way_between), sl_way_between⟩)
    (c_way_between : PySem.W.codeIn K cd_way_between "way_between" = true)
    (k_way_between : PySem.W.keepIn K (.ref f_way_between) = true)
    (a_are_steps : PySem.W.nsIn K mainGlobals "are_steps" = some (some (.ref f_are_steps)))
    (l_are_steps : K.lookup f_are_steps = some ⟨oc_are_steps, od_are_steps, .func (PySem.W.fnOf "are_steps" "are_steps" (defArgs s_are_steps) (defBody s_are_steps) (defScope s_are_steps) .none kV_are_steps dc_are_steps pm_are_steps an_are_steps cd_are_steps ct_are_steps), sl_are_steps⟩)
    (c_are_steps : PySem.W.codeIn K cd_are_steps "are_steps" = true)
    (k_are_steps : PySem.W.keepIn K (.ref f_are_steps) = true)
    (a_is_some_way : PySem.W.nsIn K mainGlobals "is_some_way" = some (some (.ref f_is_some_way)))
    (l_is_some_way : K.lookup f_is_some_way = some ⟨oc_is_some_way, od_is_some_way, .func (PySem.W.fnOf "is_some_way" "is_some_way" (defArgs s_is_some_way) (defBody s_is_some_way) (defScope s_is_some_way) .none kV_is_some_way dc_is_some_way pm_is_some_way an_is_some_way cd_is_some_way ct_is_some_way), sl_is_some_way⟩)
    (c_is_some_way : PySem.W.codeIn K cd_is_some_way "is_some_way" = true)
    (k_is_some_way : PySem.W.keepIn K (.ref f_is_some_way) = true)
    (a_is_way : PySem.W.nsIn K mainGlobals "is_way" = some (some (.ref f_is_way)))
    (l_is_way : K.lookup f_is_way = some ⟨oc_is_way, od_is_way, .func (PySem.W.fnOf "is_way" "is_way" (defArgs s_is_way) (defBody s_is_way) (defScope s_is_way) .none kV_is_way dc_is_way pm_is_way an_is_way cd_is_way ct_is_way), sl_is_way⟩)
    (c_is_way : PySem.W.codeIn K cd_is_way "is_way" = true)
    (k_is_way : PySem.W.keepIn K (.ref f_is_way) = true)
    (a_told_by : PySem.W.nsIn K mainGlobals "told_by" = some (some (.ref f_told_by)))
    (l_told_by : K.lookup f_told_by = some ⟨oc_told_by, od_told_by, .func (PySem.W.fnOf "told_by" "told_by" (defArgs s_told_by) (defBody s_told_by) (defScope s_told_by) .none kV_told_by dc_told_by pm_told_by an_told_by cd_told_by ct_told_by), sl_told_by⟩)
    (c_told_by : PySem.W.codeIn K cd_told_by "told_by" = true)
    (k_told_by : PySem.W.keepIn K (.ref f_told_by) = true)
    (a_by_way : PySem.W.nsIn K mainGlobals "by_way" = some (some (.ref f_by_way)))
    (l_by_way : K.lookup f_by_way = some ⟨oc_by_way, od_by_way, .func (PySem.W.fnOf "by_way" "by_way" (defArgs s_by_way) (defBody s_by_way) (defScope s_by_way) .none kV_by_way dc_by_way pm_by_way an_by_way cd_by_way ct_by_way), sl_by_way⟩)
    (c_by_way : PySem.W.codeIn K cd_by_way "by_way" = true)
    (k_by_way : PySem.W.keepIn K (.ref f_by_way) = true)
    (a_law_pool : PySem.W.nsIn K mainGlobals "_law_pool" = some (some (.ref f_law_pool)))
    (l_law_pool : K.lookup f_law_pool = some ⟨oc_law_pool, od_law_pool, .func (PySem.W.fnOf "_law_pool" "_law_pool" (defArgs s_law_pool) (defBody s_law_pool) (defScope s_law_pool) .none kV_law_pool dc_law_pool pm_law_pool an_law_pool cd_law_pool ct_law_pool), sl_law_pool⟩)
    (c_law_pool : PySem.W.codeIn K cd_law_pool "_law_pool" = true)
    (k_law_pool : PySem.W.keepIn K (.ref f_law_pool) = true)
    (a_law_draw : PySem.W.nsIn K mainGlobals "_law_draw" = some (some (.ref f_law_draw)))
    (l_law_draw : K.lookup f_law_draw = some ⟨oc_law_draw, od_law_draw, .func (PySem.W.fnOf "_law_draw" "_law_draw" (defArgs s_law_draw) (defBody s_law_draw) (defScope s_law_draw) .none kV_law_draw dc_law_draw pm_law_draw an_law_draw cd_law_draw ct_law_draw), sl_law_draw⟩)
    (c_law_draw : PySem.W.codeIn K cd_law_draw "_law_draw" = true)
    (k_law_draw : PySem.W.keepIn K (.ref f_law_draw) = true)
    (a_law_flag : PySem.W.nsIn K mainGlobals "_law_flag" = some (some (.ref f_law_flag)))
    (l_law_flag : K.lookup f_law_flag = some ⟨oc_law_flag, od_law_flag, .func (PySem.W.fnOf "_law_flag" "_law_flag" (defArgs s_law_flag) (defBody s_law_flag) (defScope s_law_flag) .none kV_law_flag dc_law_flag pm_law_flag an_law_flag cd_law_flag ct_law_flag), sl_law_flag⟩)
    (c_law_flag : PySem.W.codeIn K cd_law_flag "_law_flag" = true)
    (k_law_flag : PySem.W.keepIn K (.ref f_law_flag) = true)
    (a_law_form : PySem.W.nsIn K mainGlobals "_law_form" = some (some (.ref f_law_form)))
    (l_law_form : K.lookup f_law_form = some ⟨oc_law_form, od_law_form, .func (PySem.W.fnOf "_law_form" "_law_form" (defArgs s_law_form) (defBody s_law_form) (defScope s_law_form) .none kV_law_form dc_law_form pm_law_form an_law_form cd_law_form ct_law_form), sl_law_form⟩)
    (c_law_form : PySem.W.codeIn K cd_law_form "_law_form" = true)
    (k_law_form : PySem.W.keepIn K (.ref f_law_form) = true)
    (a_law_holes : PySem.W.nsIn K mainGlobals "_law_holes" = some (some (.ref f_law_holes)))
    (l_law_holes : K.lookup f_law_holes = some ⟨oc_law_holes, od_law_holes, .func (PySem.W.fnOf "_law_holes" "_law_holes" (defArgs s_law_holes) (defBody s_law_holes) (defScope s_law_holes) .none kV_law_holes dc_law_holes pm_law_holes an_law_holes cd_law_holes ct_law_holes), sl_law_holes⟩)
    (c_law_holes : PySem.W.codeIn K cd_law_holes "_law_holes" = true)
    (k_law_holes : PySem.W.keepIn K (.ref f_law_holes) = true)
    (a_law_size : PySem.W.nsIn K mainGlobals "_law_size" = some (some (.ref f_law_size)))
    (l_law_size : K.lookup f_law_size = some ⟨oc_law_size, od_law_size, .func (PySem.W.fnOf "_law_size" "_law_size" (defArgs s_law_size) (defBody s_law_size) (defScope s_law_size) .none kV_law_size dc_law_size pm_law_size an_law_size cd_law_size ct_law_size), sl_law_size⟩)
    (c_law_size : PySem.W.codeIn K cd_law_size "_law_size" = true)
    (k_law_size : PySem.W.keepIn K (.ref f_law_size) = true)
    (a_law_made : PySem.W.nsIn K mainGlobals "_law_made" = some (some (.ref f_law_made)))
    (l_law_made : K.lookup f_law_made = some ⟨oc_law_made, od_law_made, .func (PySem.W.fnOf "_law_made" "_law_made" (defArgs s_law_made) (defBody s_law_made) (defScope s_law_made) .none kV_law_made dc_law_made pm_law_made an_law_made cd_law_made ct_law_made), sl_law_made⟩)
    (c_law_made : PySem.W.codeIn K cd_law_made "_law_made" = true)
    (k_law_made : PySem.W.keepIn K (.ref f_law_made) = true)
    (a_law_boxes : PySem.W.nsIn K mainGlobals "_law_boxes" = some (some (.ref f_law_boxes)))
    (l_law_boxes : K.lookup f_law_boxes = some ⟨oc_law_boxes, od_law_boxes, .func (PySem.W.fnOf "_law_boxes" "_law_boxes" (defArgs s_law_boxes) (defBody s_law_boxes) (defScope s_law_boxes) .none kV_law_boxes dc_law_boxes pm_law_boxes an_law_boxes cd_law_boxes ct_law_boxes), sl_law_boxes⟩)
    (c_law_boxes : PySem.W.codeIn K cd_law_boxes "_law_boxes" = true)
    (k_law_boxes : PySem.W.keepIn K (.ref f_law_boxes) = true)
    (a_law_owing : PySem.W.nsIn K mainGlobals "_law_owing" = some (some (.ref f_law_owing)))
    (l_law_owing : K.lookup f_law_owing = some ⟨oc_law_owing, od_law_owing, .func (PySem.W.fnOf "_law_owing" "_law_owing" (defArgs s_law_owing) (defBody s_law_owing) (defScope s_law_owing) .none kV_law_owing dc_law_owing pm_law_owing an_law_owing cd_law_owing ct_law_owing), sl_law_owing⟩)
    (c_law_owing : PySem.W.codeIn K cd_law_owing "_law_owing" = true)
    (k_law_owing : PySem.W.keepIn K (.ref f_law_owing) = true)
    (a_law_signed : PySem.W.nsIn K mainGlobals "_law_signed" = some (some (.ref f_law_signed)))
    (l_law_signed : K.lookup f_law_signed = some ⟨oc_law_signed, od_law_signed, .func (PySem.W.fnOf "_law_signed" "_law_signed" (defArgs s_law_signed) (defBody s_law_signed) (defScope s_law_signed) .none kV_law_signed dc_law_signed pm_law_signed an_law_signed cd_law_signed ct_law_signed), sl_law_signed⟩)
    (c_law_signed : PySem.W.codeIn K cd_law_signed "_law_signed" = true)
    (k_law_signed : PySem.W.keepIn K (.ref f_law_signed) = true)
    (a_law_struck : PySem.W.nsIn K mainGlobals "_law_struck" = some (some (.ref f_law_struck)))
    (l_law_struck : K.lookup f_law_struck = some ⟨oc_law_struck, od_law_struck, .func (PySem.W.fnOf "_law_struck" "_law_struck" (defArgs s_law_struck) (defBody s_law_struck) (defScope s_law_struck) .none kV_law_struck dc_law_struck pm_law_struck an_law_struck cd_law_struck ct_law_struck), sl_law_struck⟩)
    (c_law_struck : PySem.W.codeIn K cd_law_struck "_law_struck" = true)
    (k_law_struck : PySem.W.keepIn K (.ref f_law_struck) = true)
    (a_law_undone : PySem.W.nsIn K mainGlobals "_law_undone" = some (some (.ref f_law_undone)))
    (l_law_undone : K.lookup f_law_undone = some ⟨oc_law_undone, od_law_undone, .func (PySem.W.fnOf "_law_undone" "_law_undone" (defArgs s_law_undone) (defBody s_law_undone) (defScope s_law_undone) .none kV_law_undone dc_law_undone pm_law_undone an_law_undone cd_law_undone ct_law_undone), sl_law_undone⟩)
    (c_law_undone : PySem.W.codeIn K cd_law_undone "_law_undone" = true)
    (k_law_undone : PySem.W.keepIn K (.ref f_law_undone) = true)
    (a_law_told : PySem.W.nsIn K mainGlobals "_law_told" = some (some (.ref f_law_told)))
    (l_law_told : K.lookup f_law_told = some ⟨oc_law_told, od_law_told, .func (PySem.W.fnOf "_law_told" "_law_told" (defArgs s_law_told) (defBody s_law_told) (defScope s_law_told) .none kV_law_told dc_law_told pm_law_told an_law_told cd_law_told ct_law_told), sl_law_told⟩)
    (c_law_told : PySem.W.codeIn K cd_law_told "_law_told" = true)
    (k_law_told : PySem.W.keepIn K (.ref f_law_told) = true)
    (a_law_tells : PySem.W.nsIn K mainGlobals "_law_tells" = some (some (.ref f_law_tells)))
    (l_law_tells : K.lookup f_law_tells = some ⟨oc_law_tells, od_law_tells, .func (PySem.W.fnOf "_law_tells" "_law_tells" (defArgs s_law_tells) (defBody s_law_tells) (defScope s_law_tells) .none kV_law_tells dc_law_tells pm_law_tells an_law_tells cd_law_tells ct_law_tells), sl_law_tells⟩)
    (c_law_tells : PySem.W.codeIn K cd_law_tells "_law_tells" = true)
    (k_law_tells : PySem.W.keepIn K (.ref f_law_tells) = true)
    (a_law_is_box : PySem.W.nsIn K mainGlobals "_law_is_box" = some (some (.ref f_law_is_box)))
    (l_law_is_box : K.lookup f_law_is_box = some ⟨oc_law_is_box, od_law_is_box, .func (PySem.W.fnOf "_law_is_box" "_law_is_box" (defArgs s_law_is_box) (defBody s_law_is_box) (defScope s_law_is_box) .none kV_law_is_box dc_law_is_box pm_law_is_box an_law_is_box cd_law_is_box ct_law_is_box), sl_law_is_box⟩)
    (c_law_is_box : PySem.W.codeIn K cd_law_is_box "_law_is_box" = true)
    (k_law_is_box : PySem.W.keepIn K (.ref f_law_is_box) = true)
    (a_law_goes : PySem.W.nsIn K mainGlobals "_law_goes" = some (some (.ref f_law_goes)))
    (l_law_goes : K.lookup f_law_goes = some ⟨oc_law_goes, od_law_goes, .func (PySem.W.fnOf "_law_goes" "_law_goes" (defArgs s_law_goes) (defBody s_law_goes) (defScope s_law_goes) .none kV_law_goes dc_law_goes pm_law_goes an_law_goes cd_law_goes ct_law_goes), sl_law_goes⟩)
    (c_law_goes : PySem.W.codeIn K cd_law_goes "_law_goes" = true)
    (k_law_goes : PySem.W.keepIn K (.ref f_law_goes) = true)
    (a_law_is_way : PySem.W.nsIn K mainGlobals "_law_is_way" = some (some (.ref f_law_is_way)))
    (l_law_is_way : K.lookup f_law_is_way = some ⟨oc_law_is_way, od_law_is_way, .func (PySem.W.fnOf "_law_is_way" "_law_is_way" (defArgs s_law_is_way) (defBody s_law_is_way) (defScope s_law_is_way) .none kV_law_is_way dc_law_is_way pm_law_is_way an_law_is_way cd_law_is_way ct_law_is_way), sl_law_is_way⟩)
    (c_law_is_way : PySem.W.codeIn K cd_law_is_way "_law_is_way" = true)
    (k_law_is_way : PySem.W.keepIn K (.ref f_law_is_way) = true)
    (a_law_far : PySem.W.nsIn K mainGlobals "_law_far" = some (some (.ref f_law_far)))
    (l_law_far : K.lookup f_law_far = some ⟨oc_law_far, od_law_far, .func (PySem.W.fnOf "_law_far" "_law_far" (defArgs s_law_far) (defBody s_law_far) (defScope s_law_far) .none kV_law_far dc_law_far pm_law_far an_law_far cd_law_far ct_law_far), sl_law_far⟩)
    (c_law_far : PySem.W.codeIn K cd_law_far "_law_far" = true)
    (k_law_far : PySem.W.keepIn K (.ref f_law_far) = true)
    (a_law_walk : PySem.W.nsIn K mainGlobals "_law_walk" = some (some (.ref f_law_walk)))
    (l_law_walk : K.lookup f_law_walk = some ⟨oc_law_walk, od_law_walk, .func (PySem.W.fnOf "_law_walk" "_law_walk" (defArgs s_law_walk) (defBody s_law_walk) (defScope s_law_walk) .none kV_law_walk dc_law_walk pm_law_walk an_law_walk cd_law_walk ct_law_walk), sl_law_walk⟩)
    (c_law_walk : PySem.W.codeIn K cd_law_walk "_law_walk" = true)
    (k_law_walk : PySem.W.keepIn K (.ref f_law_walk) = true)
    (a_law_right : PySem.W.nsIn K mainGlobals "_law_right" = some (some (.ref f_law_right)))
    (l_law_right : K.lookup f_law_right = some ⟨oc_law_right, od_law_right, .func (PySem.W.fnOf "_law_right" "_law_right" (defArgs s_law_right) (defBody s_law_right) (defScope s_law_right) .none kV_law_right dc_law_right pm_law_right an_law_right cd_law_right ct_law_right), sl_law_right⟩)
    (c_law_right : PySem.W.codeIn K cd_law_right "_law_right" = true)
    (k_law_right : PySem.W.keepIn K (.ref f_law_right) = true)
    (a_law : PySem.W.nsIn K mainGlobals "law" = some (some (.ref f_law)))
    (l_law : K.lookup f_law = some ⟨oc_law, od_law, .func (PySem.W.fnOf "law" "law" (defArgs s_law) (defBody s_law) (defScope s_law) .none kV_law dc_law pm_law an_law cd_law ct_law), sl_law⟩)
    (c_law : PySem.W.codeIn K cd_law "law" = true)
    (k_law : PySem.W.keepIn K (.ref f_law) = true)
    (pg : PySem.W.plainGet K C Str.empty = true)
    (hd : PySem.W.hasDictIn K C = true)
    (po : PySem.W.plainOver K C = true)
    (sa : PySem.W.findIn K (.ref C) "__setattr__" = some (some (.builtin "object.__setattr__")))
    (mk : PySem.W.makesIn K C = true)
    (kc : PySem.W.keepIn K (.ref C) = true)
    (nB : PySem.W.findIn K (.ref C) "boxes" = some none)
    (nH : PySem.W.findIn K (.ref C) "height" = some none)
    (nW : PySem.W.findIn K (.ref C) "width" = some none)
    (nT : PySem.W.findIn K (.ref C) "kept_told" = some none)
    (vL : PySem.W.nsIn K mainGlobals "LETTERS" = some (some (.str "abcdefghijklmnopqrstuvwxyz" tkL)))
    (vR : PySem.W.nsIn K mainGlobals "MOST_ROWS" = some (some (.int 12 tkR)))
    (vM : PySem.W.nsIn K mainGlobals "MOST_LETTERS" = some (some (.int 30 tkM)))
    (z_len : PySem.W.nsIn K mainGlobals "len" = some none)
    (z_isinstance : PySem.W.nsIn K mainGlobals "isinstance" = some none)
    (z_all : PySem.W.nsIn K mainGlobals "all" = some none)
    (z_sum : PySem.W.nsIn K mainGlobals "sum" = some none)
    (z_abs : PySem.W.nsIn K mainGlobals "abs" = some none)
    (z_max : PySem.W.nsIn K mainGlobals "max" = some none)
    (z_int : PySem.W.nsIn K mainGlobals "int" = some none)
    (z_bool : PySem.W.nsIn K mainGlobals "bool" = some none)
    (z_str : PySem.W.nsIn K mainGlobals "str" = some none)
    (z_tuple : PySem.W.nsIn K mainGlobals "tuple" = some none)
    (z_list : PySem.W.nsIn K mainGlobals "list" = some none)
    (z_range : PySem.W.nsIn K mainGlobals "range" = some none)
    (z_enumerate : PySem.W.nsIn K mainGlobals "enumerate" = some none)
    (z_zip : PySem.W.nsIn K mainGlobals "zip" = some none) :
    ∃ fd : FuncData, (∀ (s : Shared) (v : Value), BindsTo s fd ⟨[v], []⟩ [("_law_script", v)]) ∧ ∀ base : Heap, K.In base → base.Ns mainGlobals mg → FnOk l.prog w K mg base CX0 8 fa fd ["_law_script"] (sp_law K) := by
  have e := hfa.symm.trans (PySem.W.mg_of X G a_law)
  cases e
  have T : Txt K mg C := {
    d_is_integer := mk_is_integer X G a_is_integer l_is_integer c_is_integer k_is_integer
    d_is_within := mk_is_within X G a_is_within l_is_within c_is_within k_is_within
    d_is_pair := mk_is_pair X G a_is_pair l_is_pair c_is_pair k_is_pair
    d_is_word := mk_is_word X G a_is_word l_is_word c_is_word k_is_word
    d_is_text := mk_is_text X G a_is_text l_is_text c_is_text k_is_text
    d_is_form := mk_is_form X G a_is_form l_is_form c_is_form k_is_form
    d_strike := mk_strike X G a_strike l_strike c_strike k_strike
    d_inverse := mk_inverse X G a_inverse l_inverse c_inverse k_inverse
    d_product := mk_product X G a_product l_product c_product k_product
    d_is_row := mk_is_row X G a_is_row l_is_row c_is_row k_is_row
    d_is_box_text := mk_is_box_text X G a_is_box_text l_is_box_text c_is_box_text k_is_box_text
    d_is_box := mk_is_box X G a_is_box l_is_box c_is_box k_is_box
    d_spread_from := mk_spread_from X G a_spread_from l_spread_from c_spread_from k_spread_from
    d_check_place := mk_check_place X G a_check_place l_check_place c_check_place k_check_place
    d_boxes_back := mk_boxes_back X G a_boxes_back l_boxes_back c_boxes_back k_boxes_back
    d_way_in := mk_way_in X G a_way_in l_way_in c_way_in k_way_in
    d_way_between := mk_way_between X G a_way_between l_way_between c_way_between k_way_between
    d_are_steps := mk_are_steps X G a_are_steps l_are_steps c_are_steps k_are_steps
    d_is_some_way := mk_is_some_way X G a_is_some_way l_is_some_way c_is_some_way k_is_some_way
    d_is_way := mk_is_way X G a_is_way l_is_way c_is_way k_is_way
    d_told_by := mk_told_by X G a_told_by l_told_by c_told_by k_told_by
    d_by_way := mk_by_way X G a_by_way l_by_way c_by_way k_by_way
    d_law_pool := mk_law_pool X G a_law_pool l_law_pool c_law_pool k_law_pool
    d_law_draw := mk_law_draw X G a_law_draw l_law_draw c_law_draw k_law_draw
    d_law_flag := mk_law_flag X G a_law_flag l_law_flag c_law_flag k_law_flag
    d_law_form := mk_law_form X G a_law_form l_law_form c_law_form k_law_form
    d_law_holes := mk_law_holes X G a_law_holes l_law_holes c_law_holes k_law_holes
    d_law_size := mk_law_size X G a_law_size l_law_size c_law_size k_law_size
    d_law_made := mk_law_made X G a_law_made l_law_made c_law_made k_law_made
    d_law_boxes := mk_law_boxes X G a_law_boxes l_law_boxes c_law_boxes k_law_boxes
    d_law_owing := mk_law_owing X G a_law_owing l_law_owing c_law_owing k_law_owing
    d_law_signed := mk_law_signed X G a_law_signed l_law_signed c_law_signed k_law_signed
    d_law_struck := mk_law_struck X G a_law_struck l_law_struck c_law_struck k_law_struck
    d_law_undone := mk_law_undone X G a_law_undone l_law_undone c_law_undone k_law_undone
    d_law_told := mk_law_told X G a_law_told l_law_told c_law_told k_law_told
    d_law_tells := mk_law_tells X G a_law_tells l_law_tells c_law_tells k_law_tells
    d_law_is_box := mk_law_is_box X G a_law_is_box l_law_is_box c_law_is_box k_law_is_box
    d_law_goes := mk_law_goes X G a_law_goes l_law_goes c_law_goes k_law_goes
    d_law_is_way := mk_law_is_way X G a_law_is_way l_law_is_way c_law_is_way k_law_is_way
    d_law_far := mk_law_far X G a_law_far l_law_far c_law_far k_law_far
    d_law_walk := mk_law_walk X G a_law_walk l_law_walk c_law_walk k_law_walk
    d_law_right := mk_law_right X G a_law_right l_law_right c_law_right k_law_right
    d_law := mk_law X G a_law l_law c_law k_law
    i_Table := mk_t_init a_t_init i_t_init l_t_init c_t_init k_t_init
    k_Table := mk_t_keep a_t_keep i_t_keep l_t_keep c_t_keep k_t_keep
    cl := ⟨pg, hd, po, sa⟩
    nB := nB
    nH := nH
    nW := nW
    nT := nT
    mgC := PySem.W.mg_of X G aC
    mks := mk
    kc := kc
    c_LETTERS := ⟨tkL, PySem.W.mg_of X G vL⟩
    c_MOST_ROWS := ⟨tkR, PySem.W.mg_of X G vR⟩
    c_MOST_LETTERS := ⟨tkM, PySem.W.mg_of X G vM⟩
    b_len := PySem.W.mg_none_of X G z_len
    b_isinstance := PySem.W.mg_none_of X G z_isinstance
    b_all := PySem.W.mg_none_of X G z_all
    b_sum := PySem.W.mg_none_of X G z_sum
    b_abs := PySem.W.mg_none_of X G z_abs
    b_max := PySem.W.mg_none_of X G z_max
    b_int := PySem.W.mg_none_of X G z_int
    b_bool := PySem.W.mg_none_of X G z_bool
    b_str := PySem.W.mg_none_of X G z_str
    b_tuple := PySem.W.mg_none_of X G z_tuple
    b_list := PySem.W.mg_none_of X G z_list
    b_range := PySem.W.mg_none_of X G z_range
    b_enumerate := PySem.W.mg_none_of X G z_enumerate
    b_zip := PySem.W.mg_none_of X G z_zip }
  exact ⟨PySem.W.fnOf "law" "law" (defArgs s_law) (defBody s_law) (defScope s_law) .none kV_law dc_law pm_law an_law cd_law ct_law, fun s v => .of_eq rfl, fun base _ _ => fn_law T (fun_mk (st := s_law) l_law c_law k_law)⟩
end K15
end
section
open PySem PySem.W PyProof.Rows
set_option maxRecDepth 100000 in
set_option maxHeartbeats 0 in
theorem PySem.Challenge.cw_foretoldforms_k15_whole_ways_between_holds : PySem.Challenge.rw_foretoldforms_k15_whole_ways_between.Holds := by
  w_on; o_law; k_head; (case hw => w_witness2)
  k_fill
  refine L2.walk_of (l := PySem.Challenge.rw_foretoldforms_k15_whole_ways_between) (n := 63) (k := 8) (x := "_law_script") (CX := fun _ => L2.CX0) (sp := fun w => K15.sp_law _) rfl (by decide) rfl ⟨rfl, by decide, by decide⟩ (fun w h Y => PySem.W.kIn_of Y) ?F (fun _ _ a ns hl _ hS => ⟨a, ns, rfl, hS, fun _ => rfl⟩) (fun _ _ _ _ _ h => h)
  case F =>
    intro w mg fa h KX G hmg
    refine' K15.all_mk KX G hmg ?aC ?a_is_integer ?l_is_integer ?c_is_integer ?k_is_integer ?a_is_within ?l_is_within ?c_is_within ?k_is_within ?a_is_pair ?l_is_pair ?c_is_pair ?k_is_pair ?a_is_word ?l_is_word ?c_is_word ?k_is_word ?a_is_text ?l_is_text ?c_is_text ?k_is_text ?a_is_form ?l_is_form ?c_is_form ?k_is_form ?a_strike ?l_strike ?c_strike ?k_strike ?a_inverse ?l_inverse ?c_inverse ?k_inverse ?a_product ?l_product ?c_product ?k_product ?a_is_row ?l_is_row ?c_is_row ?k_is_row ?a_is_box_text ?l_is_box_text ?c_is_box_text ?k_is_box_text ?a_t_init ?i_t_init ?l_t_init ?c_t_init ?k_t_init ?a_t_keep ?i_t_keep ?l_t_keep ?c_t_keep ?k_t_keep ?a_is_box ?l_is_box ?c_is_box ?k_is_box ?a_spread_from ?l_spread_from ?c_spread_from ?k_spread_from ?a_check_place ?l_check_place ?c_check_place ?k_check_place ?a_boxes_back ?l_boxes_back ?c_boxes_back ?k_boxes_back ?a_way_in ?l_way_in ?c_way_in ?k_way_in ?a_way_between ?l_way_between ?c_way_between ?k_way_between ?a_are_steps ?l_are_steps ?c_are_steps ?k_are_steps ?a_is_some_way ?l_is_some_way ?c_is_some_way ?k_is_some_way ?a_is_way ?l_is_way ?c_is_way ?k_is_way ?a_told_by ?l_told_by ?c_told_by ?k_told_by ?a_by_way ?l_by_way ?c_by_way ?k_by_way ?a_law_pool ?l_law_pool ?c_law_pool ?k_law_pool ?a_law_draw ?l_law_draw ?c_law_draw ?k_law_draw ?a_law_flag ?l_law_flag ?c_law_flag ?k_law_flag ?a_law_form ?l_law_form ?c_law_form ?k_law_form ?a_law_holes ?l_law_holes ?c_law_holes ?k_law_holes ?a_law_size ?l_law_size ?c_law_size ?k_law_size ?a_law_made ?l_law_made ?c_law_made ?k_law_made ?a_law_boxes ?l_law_boxes ?c_law_boxes ?k_law_boxes ?a_law_owing ?l_law_owing ?c_law_owing ?k_law_owing ?a_law_signed ?l_law_signed ?c_law_signed ?k_law_signed ?a_law_struck ?l_law_struck ?c_law_struck ?k_law_struck ?a_law_undone ?l_law_undone ?c_law_undone ?k_law_undone ?a_law_told ?l_law_told ?c_law_told ?k_law_told ?a_law_tells ?l_law_tells ?c_law_tells ?k_law_tells ?a_law_is_box ?l_law_is_box ?c_law_is_box ?k_law_is_box ?a_law_goes ?l_law_goes ?c_law_goes ?k_law_goes ?a_law_is_way ?l_law_is_way ?c_law_is_way ?k_law_is_way ?a_law_far ?l_law_far ?c_law_far ?k_law_far ?a_law_walk ?l_law_walk ?c_law_walk ?k_law_walk ?a_law_right ?l_law_right ?c_law_right ?k_law_right ?a_law ?l_law ?c_law ?k_law ?pg ?hd ?po ?sa ?mk ?kc ?nB ?nH ?nW ?nT ?vL ?vR ?vM ?z_len ?z_isinstance ?z_all ?z_sum ?z_abs ?z_max ?z_int ?z_bool ?z_str ?z_tuple ?z_list ?z_range ?z_enumerate ?z_zip
    (case aC => k_is); (case a_is_integer => k_is); (case l_is_integer => k_is); (case c_is_integer => k_is); (case k_is_integer => k_is); (case a_is_within => k_is)
    (case l_is_within => k_is); (case c_is_within => k_is); (case k_is_within => k_is); (case a_is_pair => k_is); (case l_is_pair => k_is); (case c_is_pair => k_is)
    (case k_is_pair => k_is); (case a_is_word => k_is); (case l_is_word => k_is); (case c_is_word => k_is); (case k_is_word => k_is); (case a_is_text => k_is)
    (case l_is_text => k_is); (case c_is_text => k_is); (case k_is_text => k_is); (case a_is_form => k_is); (case l_is_form => k_is); (case c_is_form => k_is)
    (case k_is_form => k_is); (case a_strike => k_is); (case l_strike => k_is); (case c_strike => k_is); (case k_strike => k_is); (case a_inverse => k_is)
    (case l_inverse => k_is); (case c_inverse => k_is); (case k_inverse => k_is); (case a_product => k_is); (case l_product => k_is); (case c_product => k_is)
    (case k_product => k_is); (case a_is_row => k_is); (case l_is_row => k_is); (case c_is_row => k_is); (case k_is_row => k_is); (case a_is_box_text => k_is)
    (case l_is_box_text => k_is); (case c_is_box_text => k_is); (case k_is_box_text => k_is); (case a_t_init => k_is); (case i_t_init => k_is); (case l_t_init => k_is)
    (case c_t_init => k_is); (case k_t_init => k_is); (case a_t_keep => k_is); (case i_t_keep => k_is); (case l_t_keep => k_is); (case c_t_keep => k_is)
    (case k_t_keep => k_is); (case a_is_box => k_is); (case l_is_box => k_is); (case c_is_box => k_is); (case k_is_box => k_is); (case a_spread_from => k_is)
    (case l_spread_from => k_is); (case c_spread_from => k_is); (case k_spread_from => k_is); (case a_check_place => k_is); (case l_check_place => k_is); (case c_check_place => k_is)
    (case k_check_place => k_is); (case a_boxes_back => k_is); (case l_boxes_back => k_is); (case c_boxes_back => k_is); (case k_boxes_back => k_is); (case a_way_in => k_is)
    (case l_way_in => k_is); (case c_way_in => k_is); (case k_way_in => k_is); (case a_way_between => k_is); (case l_way_between => k_is); (case c_way_between => k_is)
    (case k_way_between => k_is); (case a_are_steps => k_is); (case l_are_steps => k_is); (case c_are_steps => k_is); (case k_are_steps => k_is); (case a_is_some_way => k_is)
    (case l_is_some_way => k_is); (case c_is_some_way => k_is); (case k_is_some_way => k_is); (case a_is_way => k_is); (case l_is_way => k_is); (case c_is_way => k_is)
    (case k_is_way => k_is); (case a_told_by => k_is); (case l_told_by => k_is); (case c_told_by => k_is); (case k_told_by => k_is); (case a_by_way => k_is)
    (case l_by_way => k_is); (case c_by_way => k_is); (case k_by_way => k_is); (case a_law_pool => k_is); (case l_law_pool => k_is); (case c_law_pool => k_is)
    (case k_law_pool => k_is); (case a_law_draw => k_is); (case l_law_draw => k_is); (case c_law_draw => k_is); (case k_law_draw => k_is); (case a_law_flag => k_is)
    (case l_law_flag => k_is); (case c_law_flag => k_is); (case k_law_flag => k_is); (case a_law_form => k_is); (case l_law_form => k_is); (case c_law_form => k_is)
    (case k_law_form => k_is); (case a_law_holes => k_is); (case l_law_holes => k_is); (case c_law_holes => k_is); (case k_law_holes => k_is); (case a_law_size => k_is)
    (case l_law_size => k_is); (case c_law_size => k_is); (case k_law_size => k_is); (case a_law_made => k_is); (case l_law_made => k_is); (case c_law_made => k_is)
    (case k_law_made => k_is); (case a_law_boxes => k_is); (case l_law_boxes => k_is); (case c_law_boxes => k_is); (case k_law_boxes => k_is); (case a_law_owing => k_is)
    (case l_law_owing => k_is); (case c_law_owing => k_is); (case k_law_owing => k_is); (case a_law_signed => k_is); (case l_law_signed => k_is); (case c_law_signed => k_is)
    (case k_law_signed => k_is); (case a_law_struck => k_is); (case l_law_struck => k_is); (case c_law_struck => k_is); (case k_law_struck => k_is); (case a_law_undone => k_is)
    (case l_law_undone => k_is); (case c_law_undone => k_is); (case k_law_undone => k_is); (case a_law_told => k_is); (case l_law_told => k_is); (case c_law_told => k_is)
    (case k_law_told => k_is); (case a_law_tells => k_is); (case l_law_tells => k_is); (case c_law_tells => k_is); (case k_law_tells => k_is); (case a_law_is_box => k_is)
    (case l_law_is_box => k_is); (case c_law_is_box => k_is); (case k_law_is_box => k_is); (case a_law_goes => k_is); (case l_law_goes => k_is); (case c_law_goes => k_is)
    (case k_law_goes => k_is); (case a_law_is_way => k_is); (case l_law_is_way => k_is); (case c_law_is_way => k_is); (case k_law_is_way => k_is); (case a_law_far => k_is)
    (case l_law_far => k_is); (case c_law_far => k_is); (case k_law_far => k_is); (case a_law_walk => k_is); (case l_law_walk => k_is); (case c_law_walk => k_is)
    (case k_law_walk => k_is); (case a_law_right => k_is); (case l_law_right => k_is); (case c_law_right => k_is); (case k_law_right => k_is); (case a_law => k_is)
    (case l_law => k_is); (case c_law => k_is); (case k_law => k_is); (case pg => k_is); (case hd => k_is); (case po => k_is)
    (case sa => k_is); (case mk => k_is); (case kc => k_is); (case nB => k_is); (case nH => k_is); (case nW => k_is)
    (case nT => k_is); (case vL => k_is); (case vR => k_is); (case vM => k_is); (case z_len => k_is); (case z_isinstance => k_is)
    (case z_all => k_is); (case z_sum => k_is); (case z_abs => k_is); (case z_max => k_is); (case z_int => k_is); (case z_bool => k_is)
    (case z_str => k_is); (case z_tuple => k_is); (case z_list => k_is); (case z_range => k_is); (case z_enumerate => k_is); (case z_zip => k_is)
end
