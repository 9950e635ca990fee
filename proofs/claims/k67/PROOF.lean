import PyProof.Rows.All
import Wide.All
import OpenK.AllK
import Wide.FinOn
import HandS.ForMost
import HandS.Deep
import HandS.Exc
import HandS.TryOnly
import HandS.More
import HandS.Zip
import HandS.Replace
import HandS.Style
import HandS.DictComp
import HandS.Defaults
import KE.KDictKeyed
import KE.KSortTup
import KE.GoesZip
import KE.GoesMore
import HandS.Walk
import HandS.SortKw
import KE.SortKeyHeap
import HandS.Head0
import HandS.Head1
import HandS.Head2
import HandS.HeadEnd
import HandS.HeadHook1
import HandS.HeadHook2
import KE.KStateDown
import PySem.Challenge.RW_soundturns_k67_whole_a_closed_list_or_tw
set_option Elab.async false
set_option linter.all false
set_option maxRecDepth 100000
set_option maxHeartbeats 4000000
/-! K1Math: plain words, machines, places; closed lists make machines one to one; places that are done give two words. No program in sight. -/
namespace K67
abbrev W := List Nat

structure Mach where
  k : Nat
  first : W
  rows : List (W × List (W × Nat))

namespace Mach
def row (M : Mach) (s : Nat) : W × List (W × Nat) := M.rows.getD s ([], [])
def last (M : Mach) (s : Nat) : W := (M.row s).1
def ents (M : Mach) (s : Nat) : List (W × Nat) := (M.row s).2
def ent (M : Mach) (s c : Nat) : W × Nat := (M.ents s).getD (c - 97) ([], 0)
end Mach

/-- letters of a machine of k letters -/
def Let (k : Nat) (w : W) : Prop := ∀ c ∈ w, 97 ≤ c ∧ c < 97 + k

structure Valid (M : Mach) : Prop where
  k2 : 2 ≤ M.k
  k3 : M.k ≤ 3
  n1 : 1 ≤ M.rows.length
  n3 : M.rows.length ≤ 3
  fstL : Let M.k M.first
  fst2 : M.first.length ≤ 2
  row : ∀ r ∈ M.rows, Let M.k r.1 ∧ r.1.length ≤ 2 ∧ r.2.length = M.k ∧ ∀ e ∈ r.2, Let M.k e.1 ∧ e.1.length ≤ 2 ∧ e.2 < M.rows.length

theorem let_nil {k : Nat} : Let k [] := fun _ h => nomatch h
theorem let_app {k : Nat} {a b : W} (ha : Let k a) (hb : Let k b) : Let k (a ++ b) := fun c h => (List.mem_append.mp h).elim (ha c) (hb c)
theorem let_l {k : Nat} {a b : W} (h : Let k (a ++ b)) : Let k a := fun c hc => h c (List.mem_append_left _ hc)
theorem let_r {k : Nat} {a b : W} (h : Let k (a ++ b)) : Let k b := fun c hc => h c (List.mem_append_right _ hc)
theorem let_cons {k c : Nat} {a : W} (h : Let k (c :: a)) : 97 ≤ c ∧ c < 97 + k := h c List.mem_cons_self
theorem let_tl {k c : Nat} {a : W} (h : Let k (c :: a)) : Let k a := fun d hd => h d (List.mem_cons_of_mem _ hd)
theorem let_one {k i : Nat} (h : i < k) : Let k [97 + i] := fun c hc => by
  have e : c = 97 + i := by simpa using hc
  omega

section
variable {M : Mach}
theorem row_mem (V : Valid M) {s : Nat} (h : s < M.rows.length) : M.row s ∈ M.rows := by
  unfold Mach.row
  rw [List.getD_eq_getElem?_getD, List.getElem?_eq_getElem h]
  exact List.getElem_mem h
theorem last_ok (V : Valid M) {s : Nat} (h : s < M.rows.length) : Let M.k (M.last s) ∧ (M.last s).length ≤ 2 :=
  let q := V.row _ (row_mem V h)
  ⟨q.1, q.2.1⟩
theorem ents_len (V : Valid M) {s : Nat} (h : s < M.rows.length) : (M.ents s).length = M.k := (V.row _ (row_mem V h)).2.2.1
theorem ents_ok (V : Valid M) {s : Nat} (h : s < M.rows.length) {e : W × Nat} (he : e ∈ M.ents s) : Let M.k e.1 ∧ e.1.length ≤ 2 ∧ e.2 < M.rows.length := (V.row _ (row_mem V h)).2.2.2 e he
theorem ent_get (V : Valid M) {s c : Nat} (h : s < M.rows.length) (hc : 97 ≤ c ∧ c < 97 + M.k) : (M.ents s)[c - 97]? = some (M.ent s c) := by
  have hl : c - 97 < (M.ents s).length := by rw [ents_len V h]; omega
  unfold Mach.ent
  rw [List.getD_eq_getElem?_getD, List.getElem?_eq_getElem hl]
  rfl
theorem ent_mem (V : Valid M) {s c : Nat} (h : s < M.rows.length) (hc : 97 ≤ c ∧ c < 97 + M.k) : M.ent s c ∈ M.ents s := List.mem_of_getElem? (ent_get V h hc)
end

/-! ### reading -/
def walk (M : Mach) : Nat → W → W × Nat
  | s, [] => ([], s)
  | s, c :: r => ((M.ent s c).1 ++ (walk M (M.ent s c).2 r).1, (walk M (M.ent s c).2 r).2)
def tail (M : Mach) (s : Nat) (w : W) : W := (walk M s w).1 ++ M.last (walk M s w).2
def form (M : Mach) (w : W) : W := M.first ++ tail M 0 w
theorem tail_nil (M : Mach) (s : Nat) : tail M s [] = M.last s := rfl
theorem tail_cons (M : Mach) (s c : Nat) (r : W) : tail M s (c :: r) = (M.ent s c).1 ++ tail M (M.ent s c).2 r := by
  unfold tail
  rw [walk, List.append_assoc]
theorem walk_app (M : Mach) : ∀ (a : W) (s : Nat) (b : W), walk M s (a ++ b) = ((walk M s a).1 ++ (walk M (walk M s a).2 b).1, (walk M (walk M s a).2 b).2)
  | [], s, b => rfl
  | c :: a, s, b => by
    show walk M s (c :: (a ++ b)) = _
    rw [walk, walk, walk_app M a]
    simp
theorem tail_app (M : Mach) (a b : W) (s : Nat) : tail M s (a ++ b) = (walk M s a).1 ++ tail M (walk M s a).2 b := by
  unfold tail
  rw [walk_app]
  simp
inductive Reach (M : Mach) : Nat → Prop
  | zero : Reach M 0
  | step {s : Nat} {e : W × Nat} : Reach M s → e ∈ M.ents s → Reach M e.2
section
variable {M : Mach}
theorem reach_lt (V : Valid M) {s : Nat} (h : Reach M s) : s < M.rows.length := by
  induction h with
  | zero => exact V.n1
  | step _ he ih => exact (ents_ok V ih he).2.2
theorem walk_lt (V : Valid M) : ∀ {w : W} {s : Nat}, s < M.rows.length → Let M.k w → (walk M s w).2 < M.rows.length
  | [], s, h, _ => h
  | c :: w, s, h, l => walk_lt V (w := w) (ents_ok V h (ent_mem V h (let_cons l))).2.2 (let_tl l)
theorem walk_reach (V : Valid M) : ∀ {w : W} {s : Nat}, Reach M s → Let M.k w → Reach M (walk M s w).2
  | [], s, h, _ => h
  | c :: w, s, h, l => walk_reach V (w := w) (.step h (ent_mem V (reach_lt V h) (let_cons l))) (let_tl l)
theorem walk_let (V : Valid M) : ∀ {w : W} {s : Nat}, s < M.rows.length → Let M.k w → Let M.k (walk M s w).1 ∧ (walk M s w).1.length ≤ 2 * w.length
  | [], s, h, _ => ⟨let_nil, Nat.le_refl _⟩
  | c :: w, s, h, l => by
    have q := ents_ok V h (ent_mem V h (let_cons l))
    have r := walk_let V (w := w) q.2.2 (let_tl l)
    refine ⟨let_app q.1 r.1, ?_⟩
    show ((M.ent s c).1 ++ (walk M (M.ent s c).2 w).1).length ≤ 2 * (w.length + 1)
    rw [List.length_append]
    have := q.2.1
    have := r.2
    omega
end

/-! ### what is left of two words -/
def rest : W → W → Option (W × W)
  | [], y => some ([], y)
  | a :: x, [] => some (a :: x, [])
  | a :: x, b :: y => if a = b then rest x y else none
theorem rest_some : ∀ {x y u v : W}, rest x y = some (u, v) → ∃ z, x = z ++ u ∧ y = z ++ v ∧ (u = [] ∨ v = [])
  | [], y, u, v, h => by
    have e : ([], y) = (u, v) := Option.some.inj h
    cases e
    exact ⟨[], rfl, rfl, .inl rfl⟩
  | a :: x, [], u, v, h => by
    have e : (a :: x, []) = (u, v) := Option.some.inj h
    cases e
    exact ⟨[], rfl, rfl, .inr rfl⟩
  | a :: x, b :: y, u, v, h => by
    unfold rest at h
    by_cases e : a = b
    · rw [if_pos e] at h
      obtain ⟨z, h1, h2, h3⟩ := rest_some h
      exact ⟨a :: z, by rw [h1]; rfl, by rw [h2, e]; rfl, h3⟩
    · rw [if_neg e] at h
      cases h
theorem rest_of : ∀ {x y p q : W}, x ++ p = y ++ q → ∃ u v, rest x y = some (u, v) ∧ u ++ p = v ++ q
  | [], y, p, q, h => ⟨[], y, rfl, h⟩
  | a :: x, [], p, q, h => ⟨a :: x, [], rfl, h⟩
  | a :: x, b :: y, p, q, h => by
    have h' : a :: (x ++ p) = b :: (y ++ q) := h
    injection h' with e h2
    obtain ⟨u, v, h3, h4⟩ := rest_of h2
    exact ⟨u, v, by unfold rest; rw [if_pos e]; exact h3, h4⟩

/-! ### places -/
structure Pl where
  s : Int
  t : Int
  x : W
  y : W
deriving DecidableEq
abbrev doneP : Pl := ⟨-1, -1, [], []⟩
abbrev Move := W × W × Int
def moves (M : Mach) (s : Nat) : List Move := ([], M.last s, -1) :: (M.ents s).zipIdx.map fun p => ([97 + p.2], p.1.1, (p.1.2 : Int))
abbrev Go := W × W × Pl
def goF (p : Pl) (m : Move) : Option Go := (rest (p.x ++ m.2.1) p.y).map fun r => (m.1, [], ⟨m.2.2, p.t, r.1, r.2⟩)
def goS (p : Pl) (m : Move) : Option Go := (rest p.x (p.y ++ m.2.1)).map fun r => ([], m.1, ⟨p.s, m.2.2, r.1, r.2⟩)
def isF (p : Pl) : Bool := decide (p.y ≠ []) || (decide (p.x = []) && decide (p.s ≠ -1))
def goL (M : Mach) (p : Pl) : List Go :=
  if isF p = true then (if p.s = -1 then [] else (moves M p.s.toNat).filterMap (goF p))
  else if p.t = -1 then [] else (moves M p.t.toNat).filterMap (goS p)
def foll (M : Mach) (p : Pl) : List Pl := (goL M p).map fun g => g.2.2
/-- a beginning, made by two different moves of a state -/
def IsStart (M : Mach) (st : Nat) (l1 l2 : W) (p : Pl) : Prop :=
  ∃ (i j : Nat) (a b : Move), i < j ∧ (moves M st)[i]? = some a ∧ (moves M st)[j]? = some b ∧ l1 = a.1 ∧ l2 = b.1 ∧ p.s = a.2.2 ∧ p.t = b.2.2 ∧ rest a.2.1 b.2.1 = some (p.x, p.y)
structure ClosedP (M : Mach) (L : List Pl) : Prop where
  nd : L.Nodup
  st : ∀ s l1 l2 p, Reach M s → IsStart M s l1 l2 p → p ∈ L
  fo : ∀ p ∈ L, ∀ q ∈ foll M p, q ∈ L
  nodone : doneP ∉ L

/-! ### moves by words -/
def tailZ (M : Mach) (s : Int) (u : W) : W := if s = -1 then [] else tail M s.toNat u
def weight (s : Int) (u : W) : Nat := if s = -1 then 0 else u.length + 1
/-- the copy's word from its state on -/
def CopyOk (M : Mach) (s : Int) (u : W) : Prop := (s = -1 ∧ u = []) ∨ (0 ≤ s ∧ s.toNat < M.rows.length ∧ Let M.k u)
theorem move_at (M : Mach) (s i : Nat) {e : W × Nat} (h : (M.ents s)[i]? = some e) : (moves M s)[i + 1]? = some ([97 + i], e.1, (e.2 : Int)) := by
  unfold moves
  rw [List.getElem?_cons_succ, List.getElem?_map, List.getElem?_zipIdx, h]
  simp
theorem move_inv (M : Mach) (s i : Nat) {m : Move} (h : (moves M s)[i]? = some m) : (i = 0 ∧ m = ([], M.last s, -1)) ∨ ∃ j e, i = j + 1 ∧ (M.ents s)[j]? = some e ∧ m = ([97 + j], e.1, (e.2 : Int)) := by
  cases i with
  | zero =>
    left
    have e : ([], M.last s, -1) = m := Option.some.inj h
    exact ⟨rfl, e.symm⟩
  | succ j =>
    right
    unfold moves at h
    rw [List.getElem?_cons_succ, List.getElem?_map, List.getElem?_zipIdx] at h
    cases q : (M.ents s)[j]? with
    | none => rw [q] at h; simp at h
    | some e =>
      rw [q] at h
      refine ⟨j, e, rfl, q, ?_⟩
      have h' : ([97 + (0 + j)], e.1, (e.2 : Int)) = m := Option.some.inj h
      rw [← h', Nat.zero_add]
/-- the number of the move that a word begins with -/
def mvI : W → Nat
  | [] => 0
  | c :: _ => c - 97 + 1
section
variable {M : Mach}
/-- the move that the rest of a word begins with -/
theorem copy_move (V : Valid M) {s : Int} {u : W} (h : CopyOk M s u) (hs : s ≠ -1) :
    ∃ m u', (moves M s.toNat)[mvI u]? = some m ∧ m ∈ moves M s.toNat ∧ tailZ M s u = m.2.1 ++ tailZ M m.2.2 u' ∧ CopyOk M m.2.2 u' ∧ weight m.2.2 u' < weight s u := by
  rcases h with ⟨e, _⟩ | ⟨h0, hn, hl⟩
  · exact absurd e hs
  · cases u with
    | nil =>
      refine ⟨([], M.last s.toNat, -1), [], rfl, List.mem_cons_self, ?_, .inl ⟨rfl, rfl⟩, ?_⟩
      · unfold tailZ
        rw [if_neg hs, if_pos rfl, List.append_nil]
        rfl
      · unfold weight
        rw [if_neg hs, if_pos rfl]
        exact Nat.zero_lt_one
    | cons c r =>
      have g := ent_get V hn (let_cons hl)
      have g2 := move_at M s.toNat _ g
      have q := ents_ok V hn (ent_mem V hn (let_cons hl))
      refine ⟨_, r, g2, List.mem_of_getElem? g2, ?_, .inr ⟨by show (0 : Int) ≤ ((M.ent s.toNat c).2 : Nat); omega, by simpa using q.2.2, let_tl hl⟩, ?_⟩
      · unfold tailZ
        have n1 : ¬ (((M.ent s.toNat c).2 : Nat) : Int) = -1 := by omega
        rw [if_neg hs]
        show _ = (M.ent s.toNat c).1 ++ (if (((M.ent s.toNat c).2 : Nat) : Int) = -1 then [] else tail M (((M.ent s.toNat c).2 : Nat) : Int).toNat r)
        rw [if_neg n1, tail_cons]
        rfl
      · unfold weight
        have n1 : ¬ (((M.ent s.toNat c).2 : Nat) : Int) = -1 := by omega
        rw [if_neg hs]
        show (if (((M.ent s.toNat c).2 : Nat) : Int) = -1 then 0 else r.length + 1) < _
        rw [if_neg n1]
        simp
theorem isF_true {p : Pl} (h : isF p = true) : p.y ≠ [] ∨ (p.x = [] ∧ p.s ≠ -1) := by
  unfold isF at h
  rcases Bool.or_eq_true_iff.mp h with q | q
  · exact .inl (of_decide_eq_true q)
  · obtain ⟨q1, q2⟩ := Bool.and_eq_true_iff.mp q
    exact .inr ⟨of_decide_eq_true q1, of_decide_eq_true q2⟩
theorem isF_false {p : Pl} (h : ¬ isF p = true) : p.y = [] ∧ (p.x = [] → p.s = -1) := by
  unfold isF at h
  rw [Bool.or_eq_true_iff, Bool.and_eq_true_iff, decide_eq_true_iff, decide_eq_true_iff, decide_eq_true_iff] at h
  constructor
  · exact Classical.byContradiction fun q => h (.inl q)
  · intro q
    exact Classical.byContradiction fun z => h (.inr ⟨q, z⟩)
/-- two copies that write the same come to a done place -/
theorem sync (V : Valid M) {L : List Pl} (C : ClosedP M L) : ∀ (n : Nat) (p : Pl) (u v : W), weight p.s u + weight p.t v = n → p ∈ L → CopyOk M p.s u → CopyOk M p.t v → (p.x = [] ∨ p.y = []) →
    p.x ++ tailZ M p.s u = p.y ++ tailZ M p.t v → False := by
  intro n
  induction n using Nat.strongRecOn with
  | _ n ih =>
    intro p u v hn hp hu hv hxy he
    by_cases hF : isF p = true
    · have q := isF_true hF
      by_cases hs : p.s = -1
      · rcases q with q | q
        · have hx : p.x = [] := hxy.elim id fun z => absurd z q
          have e1 : tailZ M p.s u = [] := by unfold tailZ; rw [if_pos hs]
          rw [hx, e1] at he
          exact q (List.append_eq_nil_iff.mp he.symm).1
        · exact q.2 hs
      · obtain ⟨m, u', g, hm, e1, c1, w1⟩ := copy_move V hu hs
        have e2 : (p.x ++ m.2.1) ++ tailZ M m.2.2 u' = p.y ++ tailZ M p.t v := by rw [List.append_assoc, ← e1]; exact he
        obtain ⟨a, b, r1, r2⟩ := rest_of e2
        have hq : (⟨m.2.2, p.t, a, b⟩ : Pl) ∈ L := C.fo p hp _ (by
          unfold foll goL
          rw [if_pos hF, if_neg hs]
          refine List.mem_map.mpr ⟨(m.1, [], ⟨m.2.2, p.t, a, b⟩), List.mem_filterMap.mpr ⟨m, hm, ?_⟩, rfl⟩
          unfold goF
          rw [r1] <;> rfl)
        obtain ⟨z, _, _, hz⟩ := rest_some r1
        exact ih (weight m.2.2 u' + weight p.t v) (by omega) ⟨m.2.2, p.t, a, b⟩ u' v rfl hq c1 hv hz r2
    · have q := isF_false hF
      by_cases ht : p.t = -1
      · have e1 : tailZ M p.t v = [] := by unfold tailZ; rw [if_pos ht]
        rw [q.1, e1] at he
        have hx := (List.append_eq_nil_iff.mp he).1
        have hs := q.2 hx
        apply C.nodone
        have e : p = doneP := by
          obtain ⟨s, t, x, y⟩ := p
          have h1 : s = -1 := hs
          have h2 : t = -1 := ht
          have h3 : x = [] := hx
          have h4 : y = [] := q.1
          rw [h1, h2, h3, h4]
        rw [← e]
        exact hp
      · obtain ⟨m, v', g, hm, e1, c1, w1⟩ := copy_move V hv ht
        have e2 : p.x ++ tailZ M p.s u = (p.y ++ m.2.1) ++ tailZ M m.2.2 v' := by rw [List.append_assoc, ← e1]; exact he
        obtain ⟨a, b, r1, r2⟩ := rest_of e2
        have hq : (⟨p.s, m.2.2, a, b⟩ : Pl) ∈ L := C.fo p hp _ (by
          unfold foll goL
          rw [if_neg hF, if_neg ht]
          refine List.mem_map.mpr ⟨([], m.1, ⟨p.s, m.2.2, a, b⟩), List.mem_filterMap.mpr ⟨m, hm, ?_⟩, rfl⟩
          unfold goS
          rw [r1] <;> rfl)
        obtain ⟨z, _, _, hz⟩ := rest_some r1
        exact ih (weight p.s u + weight m.2.2 v') (by omega) ⟨p.s, m.2.2, a, b⟩ u v' rfl hq hu c1 hz r2
theorem part_ways : ∀ {u v : W}, u ≠ v → ∃ w a b, u = w ++ a ∧ v = w ++ b ∧ a.head? ≠ b.head?
  | [], [], h => absurd rfl h
  | [], b :: v, _ => ⟨[], [], b :: v, rfl, rfl, by simp⟩
  | a :: u, [], _ => ⟨[], a :: u, [], rfl, rfl, by simp⟩
  | a :: u, b :: v, h => by
    by_cases e : a = b
    · subst e
      obtain ⟨w, c, d, h1, h2, h3⟩ := part_ways (u := u) (v := v) fun q => h (by rw [q])
      exact ⟨a :: w, c, d, by rw [h1]; rfl, by rw [h2]; rfl, h3⟩
    · exact ⟨[], a :: u, b :: v, rfl, rfl, by simpa using e⟩
theorem mvI_ne {k : Nat} {a b : W} (ha : Let k a) (hb : Let k b) (h : a.head? ≠ b.head?) : mvI a ≠ mvI b := by
  cases a with
  | nil =>
    cases b with
    | nil => exact absurd rfl h
    | cons c r => intro q; simp [mvI] at q
  | cons d s =>
    cases b with
    | nil => intro q; simp [mvI] at q
    | cons c r =>
      intro q
      have h1 := let_cons ha
      have h2 := let_cons hb
      have q' : d - 97 + 1 = c - 97 + 1 := q
      exact h (by show some d = some c; congr 1; omega)
theorem parted (V : Valid M) {L : List Pl} (C : ClosedP M L) {s : Nat} (hs : Reach M s) {a b : W} (ha : Let M.k a) (hb : Let M.k b) (h : mvI a < mvI b) (e : tail M s a = tail M s b) : False := by
  have lt := reach_lt V hs
  have ca : CopyOk M (s : Int) a := .inr ⟨by omega, by simpa using lt, ha⟩
  have cb : CopyOk M (s : Int) b := .inr ⟨by omega, by simpa using lt, hb⟩
  have n1 : ¬ ((s : Nat) : Int) = -1 := by omega
  obtain ⟨m, a', g, hm, e1, c1, w1⟩ := copy_move V ca n1
  obtain ⟨m2, b', g2, hm2, e3, c2, w2⟩ := copy_move V cb n1
  have t1 : tailZ M (s : Int) a = tail M s a := by unfold tailZ; rw [if_neg n1] <;> rfl
  have t2 : tailZ M (s : Int) b = tail M s b := by unfold tailZ; rw [if_neg n1] <;> rfl
  have e2 : m.2.1 ++ tailZ M m.2.2 a' = m2.2.1 ++ tailZ M m2.2.2 b' := by rw [← e1, ← e3, t1, t2, e]
  obtain ⟨x, y, r1, r2⟩ := rest_of e2
  have hq : (⟨m.2.2, m2.2.2, x, y⟩ : Pl) ∈ L := C.st s m.1 m2.1 _ hs ⟨mvI a, mvI b, m, m2, h, g, g2, rfl, rfl, rfl, rfl, r1⟩
  obtain ⟨z, _, _, hz⟩ := rest_some r1
  exact sync V C _ ⟨m.2.2, m2.2.2, x, y⟩ a' b' rfl hq c1 c2 hz r2
/-- A CLOSED LIST MAKES THE MACHINE ONE TO ONE -/
theorem one_to_one (V : Valid M) {L : List Pl} (C : ClosedP M L) {u v : W} (hu : Let M.k u) (hv : Let M.k v) (h : form M u = form M v) : u = v := by
  refine Classical.byContradiction fun hne => ?_
  obtain ⟨w, a, b, rfl, rfl, hh⟩ := part_ways hne
  unfold form at h
  have h2 := List.append_cancel_left h
  rw [tail_app, tail_app] at h2
  have h3 := List.append_cancel_left h2
  have hr := walk_reach V .zero (let_l hu)
  rcases Nat.lt_or_gt_of_ne (mvI_ne (let_r hu) (let_r hv) hh) with q | q
  · exact parted V C hr (let_r hu) (let_r hv) q h3
  · exact parted V C hr (let_r hv) (let_r hu) q h3.symm

/-! ### a done place gives two words -/
def Copy (M : Mach) (st : Nat) (w : W) (s : Int) (A : W) : Prop := (s = -1 ∧ A = tail M st w) ∨ (0 ≤ s ∧ w ≠ [] ∧ s = ((walk M st w).2 : Nat) ∧ A = (walk M st w).1)
structure Leads (M : Mach) (st : Nat) (one other : W) (p : Pl) : Prop where
  l1 : Let M.k one
  l2 : Let M.k other
  ne : one.head? ≠ other.head?
  ex : ∃ z A B, Copy M st one p.s A ∧ Copy M st other p.t B ∧ A = z ++ p.x ∧ B = z ++ p.y
theorem copy_begin (V : Valid M) {st i : Nat} (hs : st < M.rows.length) {m : Move} (h : (moves M st)[i]? = some m) : Let M.k m.1 ∧ Copy M st m.1 m.2.2 m.2.1 ∧ mvI m.1 = i := by
  rcases move_inv M st i h with ⟨e, rfl⟩ | ⟨j, e, rfl, he, rfl⟩
  · exact ⟨let_nil, .inl ⟨rfl, rfl⟩, e.symm⟩
  · have hj : j < M.k := by
      have := (List.getElem?_eq_some_iff.mp he).1
      rw [ents_len V hs] at this
      exact this
    have g : M.ent st (97 + j) = e := by
      have g1 := ent_get V hs (c := 97 + j) ⟨by omega, by omega⟩
      rw [show 97 + j - 97 = j by omega, he] at g1
      exact (Option.some.inj g1).symm
    refine ⟨let_one hj, .inr ⟨by show (0 : Int) ≤ (e.2 : Nat); omega, by simp, ?_, ?_⟩, ?_⟩
    · show ((e.2 : Nat) : Int) = ((M.ent st (97 + j)).2 : Nat)
      rw [g]
    · show e.1 = (M.ent st (97 + j)).1 ++ []
      rw [g, List.append_nil]
    · show 97 + j - 97 + 1 = j + 1
      omega
theorem leads_start (V : Valid M) {st : Nat} (hs : st < M.rows.length) {l1 l2 : W} {p : Pl} (h : IsStart M st l1 l2 p) : Leads M st l1 l2 p := by
  obtain ⟨i, j, a, b, hij, ga, gb, rfl, rfl, es, et, er⟩ := h
  obtain ⟨la, ca, ia⟩ := copy_begin V hs ga
  obtain ⟨lb, cb, ib⟩ := copy_begin V hs gb
  obtain ⟨z, h1, h2, _⟩ := rest_some er
  refine ⟨la, lb, fun q => ?_, z, a.2.1, b.2.1, by rw [es]; exact ca, by rw [et]; exact cb, h1, h2⟩
  have : mvI a.1 = mvI b.1 := by
    have hd : ∀ {u v : W}, u.head? = v.head? → mvI u = mvI v := by
      intro u v q
      cases u <;> cases v <;> simp_all [mvI]
    exact hd q
  omega
/-- a copy goes on by a move -/
theorem copy_go (V : Valid M) {st : Nat} (hs : st < M.rows.length) {w : W} {s : Int} {A : W} (hw : Let M.k w) (c : Copy M st w s A) (h : s ≠ -1) {m : Move} (hm : m ∈ moves M s.toNat) :
    Let M.k (w ++ m.1) ∧ Copy M st (w ++ m.1) m.2.2 (A ++ m.2.1) ∧ (w ++ m.1).head? = w.head? := by
  rcases c with ⟨q, _⟩ | ⟨h0, hne, es, eA⟩
  · exact absurd q h
  · have lt := walk_lt V hs hw
    have en : s.toNat = (walk M st w).2 := by omega
    obtain ⟨i, hi⟩ := List.mem_iff_getElem?.mp hm
    have hd : (w ++ m.1).head? = w.head? := by
      cases w with
      | nil => exact absurd rfl hne
      | cons c r => rfl
    rcases move_inv M _ i hi with ⟨_, rfl⟩ | ⟨j, e, rfl, he, rfl⟩
    · refine ⟨by rw [List.append_nil]; exact hw, .inl ⟨rfl, ?_⟩, hd⟩
      show A ++ M.last s.toNat = tail M st (w ++ [])
      rw [List.append_nil, eA, en]
      rfl
    · rw [en] at he
      have hj : j < M.k := by
        have := (List.getElem?_eq_some_iff.mp he).1
        rw [ents_len V lt] at this
        exact this
      have g : M.ent (walk M st w).2 (97 + j) = e := by
        have g1 := ent_get V lt (c := 97 + j) ⟨by omega, by omega⟩
        rw [show 97 + j - 97 = j by omega, he] at g1
        exact (Option.some.inj g1).symm
      have ew : walk M st (w ++ [97 + j]) = (A ++ e.1, e.2) := by
        rw [walk_app]
        show ((walk M st w).1 ++ ((M.ent (walk M st w).2 (97 + j)).1 ++ []), (M.ent (walk M st w).2 (97 + j)).2) = _
        rw [g, List.append_nil, eA]
      refine ⟨let_app hw (let_one hj), .inr ⟨by show (0 : Int) ≤ (e.2 : Nat); omega, by simp, ?_, ?_⟩, hd⟩
      · show ((e.2 : Nat) : Int) = ((walk M st (w ++ [97 + j])).2 : Nat)
        rw [ew]
      · show A ++ e.1 = (walk M st (w ++ [97 + j])).1
        rw [ew]
theorem leads_go (V : Valid M) {st : Nat} (hs : st < M.rows.length) {one other : W} {p : Pl} (h : Leads M st one other p) {g : Go} (hg : g ∈ goL M p) : Leads M st (one ++ g.1) (other ++ g.2.1) g.2.2 := by
  obtain ⟨l1, l2, ne, z, A, B, cA, cB, eA, eB⟩ := h
  unfold goL at hg
  by_cases hF : isF p = true
  · rw [if_pos hF] at hg
    by_cases e : p.s = -1
    · rw [if_pos e] at hg
      cases hg
    · rw [if_neg e] at hg
      obtain ⟨m, hm, q⟩ := List.mem_filterMap.mp hg
      unfold goF at q
      obtain ⟨r, r1, rfl⟩ := Option.map_eq_some_iff.mp q
      obtain ⟨h1, h2, h3⟩ := copy_go V hs l1 cA e hm
      obtain ⟨z2, r2, r3, _⟩ := rest_some (u := r.1) (v := r.2) r1
      refine ⟨h1, by rw [List.append_nil]; exact l2, by rw [h3, List.append_nil]; exact ne, z ++ z2, A ++ m.2.1, B, h2, by rw [List.append_nil]; exact cB, ?_, ?_⟩
      · rw [eA, List.append_assoc, r2, List.append_assoc]
      · rw [eB, r3, List.append_assoc]
  · rw [if_neg hF] at hg
    by_cases e : p.t = -1
    · rw [if_pos e] at hg
      cases hg
    · rw [if_neg e] at hg
      obtain ⟨m, hm, q⟩ := List.mem_filterMap.mp hg
      unfold goS at q
      obtain ⟨r, r1, rfl⟩ := Option.map_eq_some_iff.mp q
      obtain ⟨h1, h2, h3⟩ := copy_go V hs l2 cB e hm
      obtain ⟨z2, r2, r3, _⟩ := rest_some (u := r.1) (v := r.2) r1
      refine ⟨by rw [List.append_nil]; exact l1, h1, by rw [h3, List.append_nil]; exact ne, z ++ z2, A, B ++ m.2.1, by rw [List.append_nil]; exact cA, h2, ?_, ?_⟩
      · rw [eA, r2, List.append_assoc]
      · rw [eB, List.append_assoc, r3, List.append_assoc]
/-- TWO WORDS WITH ONE FORM -/
theorem leads_done {st : Nat} {one other w : W} (h : Leads M st one other doneP) (hw : (walk M 0 w).2 = st) : w ++ one ≠ w ++ other ∧ form M (w ++ one) = form M (w ++ other) := by
  obtain ⟨_, _, ne, z, A, B, cA, cB, eA, eB⟩ := h
  refine ⟨fun q => ne (by rw [List.append_cancel_left q]), ?_⟩
  have hA : A = tail M st one := cA.elim (fun q => q.2) fun q => absurd q.1 (by decide)
  have hB : B = tail M st other := cB.elim (fun q => q.2) fun q => absurd q.1 (by decide)
  have e : tail M st one = tail M st other := by rw [← hA, ← hB, eA, eB]
  unfold form
  rw [tail_app, tail_app, hw, e]

/-! ### places are few -/
structure PlOk (M : Mach) (p : Pl) : Prop where
  s0 : -1 ≤ p.s
  s1 : p.s < M.rows.length
  t0 : -1 ≤ p.t
  t1 : p.t < M.rows.length
  xy : p.x = [] ∨ p.y = []
  lx : Let M.k p.x
  ly : Let M.k p.y
  x2 : p.x.length ≤ 2
  y2 : p.y.length ≤ 2
structure MvOk (M : Mach) (m : Move) : Prop where
  l1 : Let M.k m.1
  n1 : m.1.length ≤ 1
  l2 : Let M.k m.2.1
  n2 : m.2.1.length ≤ 2
  s0 : -1 ≤ m.2.2
  s1 : m.2.2 < M.rows.length
theorem mv_ok (V : Valid M) {st : Nat} (hs : st < M.rows.length) {m : Move} (hm : m ∈ moves M st) : MvOk M m := by
  obtain ⟨i, hi⟩ := List.mem_iff_getElem?.mp hm
  rcases move_inv M _ i hi with ⟨_, rfl⟩ | ⟨j, e, rfl, he, rfl⟩
  · exact ⟨let_nil, Nat.zero_le _, (last_ok V hs).1, (last_ok V hs).2, Int.le_refl _, by show (-1 : Int) < _; omega⟩
  · have q := ents_ok V hs (List.mem_of_getElem? he)
    have hj : j < M.k := by
      have := (List.getElem?_eq_some_iff.mp he).1
      rw [ents_len V hs] at this
      exact this
    exact ⟨let_one hj, Nat.le_refl _, q.1, q.2.1, by show (-1 : Int) ≤ (e.2 : Nat); omega, by show ((e.2 : Nat) : Int) < _; omega⟩
theorem rest_ok {k : Nat} {x y u v : W} (h : rest x y = some (u, v)) (hx : Let k x) (hy : Let k y) : Let k u ∧ Let k v ∧ u.length ≤ x.length ∧ v.length ≤ y.length ∧ (u = [] ∨ v = []) := by
  obtain ⟨z, rfl, rfl, hz⟩ := rest_some h
  exact ⟨let_r hx, let_r hy, by simp, by simp, hz⟩
theorem start_ok (V : Valid M) {st : Nat} (hs : st < M.rows.length) {l1 l2 : W} {p : Pl} (h : IsStart M st l1 l2 p) : PlOk M p := by
  obtain ⟨i, j, a, b, hij, ga, gb, rfl, rfl, es, et, er⟩ := h
  have qa := mv_ok V hs (List.mem_of_getElem? ga)
  have qb := mv_ok V hs (List.mem_of_getElem? gb)
  obtain ⟨h1, h2, h3, h4, h5⟩ := rest_ok er qa.l2 qb.l2
  exact ⟨by rw [es]; exact qa.s0, by rw [es]; exact qa.s1, by rw [et]; exact qb.s0, by rw [et]; exact qb.s1, h5, h1, h2, Nat.le_trans h3 qa.n2, Nat.le_trans h4 qb.n2⟩
theorem go_ok (V : Valid M) {p : Pl} (h : PlOk M p) {g : Go} (hg : g ∈ goL M p) : PlOk M g.2.2 ∧ Let M.k g.1 ∧ Let M.k g.2.1 ∧ g.1.length ≤ 1 ∧ g.2.1.length ≤ 1 := by
  unfold goL at hg
  by_cases hF : isF p = true
  · rw [if_pos hF] at hg
    by_cases e : p.s = -1
    · rw [if_pos e] at hg
      cases hg
    · rw [if_neg e] at hg
      obtain ⟨m, hm, q⟩ := List.mem_filterMap.mp hg
      unfold goF at q
      obtain ⟨r, r1, rfl⟩ := Option.map_eq_some_iff.mp q
      have hn : p.s.toNat < M.rows.length := by have := h.s0; have := h.s1; omega
      have qm := mv_ok V hn hm
      obtain ⟨z, q1, q2, q5⟩ := rest_some (u := r.1) (v := r.2) r1
      have lx : Let M.k (p.x ++ m.2.1) := let_app h.lx qm.l2
      rw [q1] at lx
      have ly := h.ly
      rw [q2] at ly
      have e1 := congrArg List.length q1
      have e2 := congrArg List.length q2
      rw [List.length_append, List.length_append] at e1
      rw [List.length_append] at e2
      have := qm.n2
      have := h.x2
      have := h.y2
      refine ⟨⟨qm.s0, qm.s1, h.t0, h.t1, q5, let_r lx, let_r ly, ?_, ?_⟩, qm.l1, let_nil, qm.n1, Nat.zero_le _⟩
      · show r.1.length ≤ 2
        rcases isF_true hF with y0 | ⟨x0, _⟩
        · have x0 : p.x = [] := h.xy.elim id fun z => absurd z y0
          rw [x0] at e1
          simp at e1
          omega
        · rw [x0] at e1
          simp at e1
          omega
      · show r.2.length ≤ 2
        omega
  · rw [if_neg hF] at hg
    by_cases e : p.t = -1
    · rw [if_pos e] at hg
      cases hg
    · rw [if_neg e] at hg
      obtain ⟨m, hm, q⟩ := List.mem_filterMap.mp hg
      unfold goS at q
      obtain ⟨r, r1, rfl⟩ := Option.map_eq_some_iff.mp q
      have hn : p.t.toNat < M.rows.length := by have := h.t0; have := h.t1; omega
      have qm := mv_ok V hn hm
      obtain ⟨z, q1, q2, q5⟩ := rest_some (u := r.1) (v := r.2) r1
      have y0 := (isF_false hF).1
      have ly : Let M.k (p.y ++ m.2.1) := let_app h.ly qm.l2
      rw [q2] at ly
      have lx := h.lx
      rw [q1] at lx
      have e1 := congrArg List.length q1
      have e2 := congrArg List.length q2
      rw [List.length_append] at e1
      rw [y0] at e2
      simp at e2
      have := qm.n2
      have := h.x2
      refine ⟨⟨h.s0, h.s1, qm.s0, qm.s1, q5, let_r lx, let_r ly, ?_, ?_⟩, let_nil, qm.l1, Nat.zero_le _, qm.n1⟩
      · show r.1.length ≤ 2
        omega
      · show r.2.length ≤ 2
        omega
end

/-! ### how many places -/
theorem nodup_le {α : Type} [DecidableEq α] : ∀ {l m : List α}, l.Nodup → (∀ x ∈ l, x ∈ m) → l.length ≤ m.length
  | [], _, _, _ => Nat.zero_le _
  | a :: l, m, nd, sub => by
    obtain ⟨ha, nl⟩ := List.nodup_cons.mp nd
    have am := sub a List.mem_cons_self
    have h := nodup_le (l := l) (m := m.erase a) nl fun x hx => by
      have ne : x ≠ a := fun e => ha (e ▸ hx)
      exact (List.mem_erase_of_ne ne).mpr (sub x (List.mem_cons_of_mem _ hx))
    have e := List.length_erase_of_mem am
    have pos : 0 < m.length := List.length_pos_of_mem am
    rw [List.length_cons]
    omega
def abc : List Nat := [97, 98, 99]
def words2 : List W := [] :: (abc.map fun c => [c]) ++ abc.flatMap fun c => abc.map fun d => [c, d]
def sts : List Int := [-1, 0, 1, 2]
def allPl : List Pl := sts.flatMap fun s => sts.flatMap fun t => (words2.map fun x => (⟨s, t, x, []⟩ : Pl)) ++ words2.map fun y => (⟨s, t, [], y⟩ : Pl)
theorem allPl_len : allPl.length = 416 := by decide +kernel
theorem in_abc {c : Nat} (h : 97 ≤ c ∧ c < 100) : c ∈ abc := by
  have : c = 97 ∨ c = 98 ∨ c = 99 := by omega
  unfold abc
  rcases this with e | e | e <;> simp [e]
theorem in_words2 {k : Nat} (hk : k ≤ 3) : ∀ {w : W}, Let k w → w.length ≤ 2 → w ∈ words2
  | [], _, _ => by unfold words2; simp
  | [c], h, _ => by
    have hc := let_cons h
    have := in_abc (c := c) ⟨hc.1, by omega⟩
    unfold words2
    simp [this]
  | [c, d], h, _ => by
    have hc := let_cons h
    have hd := let_cons (let_tl h)
    have h1 := in_abc (c := c) ⟨hc.1, by omega⟩
    have h2 := in_abc (c := d) ⟨hd.1, by omega⟩
    unfold words2
    refine List.mem_append_right _ (List.mem_flatMap.mpr ⟨c, h1, List.mem_map.mpr ⟨d, h2, rfl⟩⟩)
  | _ :: _ :: _ :: _, _, h => by simp at h
theorem in_sts {s : Int} (h : -1 ≤ s ∧ s < 3) : s ∈ sts := by
  have : s = -1 ∨ s = 0 ∨ s = 1 ∨ s = 2 := by omega
  unfold sts
  rcases this with e | e | e | e <;> simp [e]
theorem in_all {M : Mach} (V : Valid M) {p : Pl} (h : PlOk M p) : p ∈ allPl := by
  have n3 := V.n3
  obtain ⟨s0, s1, t0, t1, xy, lx, ly, x2, y2⟩ := h
  obtain ⟨s, t, x, y⟩ := p
  simp only at *
  unfold allPl
  refine List.mem_flatMap.mpr ⟨s, in_sts ⟨s0, by omega⟩, List.mem_flatMap.mpr ⟨t, in_sts ⟨t0, by omega⟩, ?_⟩⟩
  rcases xy with e | e
  · subst e
    exact List.mem_append_right _ (List.mem_map.mpr ⟨y, in_words2 V.k3 ly y2, rfl⟩)
  · subst e
    exact List.mem_append_left _ (List.mem_map.mpr ⟨x, in_words2 V.k3 lx x2, rfl⟩)
/-- THERE ARE AT MOST 416 PLACES -/
theorem few {M : Mach} (V : Valid M) {L : List Pl} (nd : L.Nodup) (h : ∀ p ∈ L, PlOk M p) : L.length ≤ 416 := by
  have q := nodup_le nd fun p hp => in_all V (h p hp)
  rw [allPl_len] at q
  exact q
end K67

/-! K2Base: data in the heap; dicts whose keys are places; the rules that HandS lacks. -/
namespace K67
open PySem PySem.Spec PyProof.Rows L2

/-! ### texts -/
def S (w : W) : Str := ⟨w.toArray⟩
theorem S_cps (w : W) : (S w).cps.toList = w := by simp [S]
theorem S_len (w : W) : (S w).length = w.length := by
  show w.toArray.size = w.length
  simp
theorem S_app (a b : W) : S a ++ S b = S (a ++ b) := TL.ext_tl (by rw [TL.tl_append]; simp [TL.tl, S])
theorem S_inj {a b : W} (h : S a = S b) : a = b := by
  have := congrArg (fun z : Str => z.cps.toList) h
  simpa [S] using this
theorem S_eq (a b : W) : decide (S a = S b) = decide (a = b) := by
  by_cases h : a = b
  · rw [h]; simp
  · rw [decide_eq_false h, decide_eq_false fun q => h (S_inj q)]
theorem S_nil : S [] = ("" : Str) := by decide +kernel

/-! ### data -/
mutual
/-- the value v stands for the data d: tuples that stand in H, all the way down -/
inductive Dat (H : Hp) : V → PyData → Prop
  | non : Dat H .non .none
  | bl (b : Bool) : Dat H (.bl b) (.bool b)
  | int (i : Int) : Dat H (.int i) (.int i)
  | str (x : Str) : Dat H (.str x) (.str x)
  | tup {a : Addr} {xs : List V} {ds : List PyData} : H a = some (.tup xs) → Dats H xs ds → Dat H (.ref a) (.tuple ds)
inductive Dats (H : Hp) : List V → List PyData → Prop
  | nil : Dats H [] []
  | cons {v : V} {vs : List V} {d : PyData} {ds : List PyData} : Dat H v d → Dats H vs ds → Dats H (v :: vs) (d :: ds)
end
/-- tuples stay -/
def TS (H H' : Hp) : Prop := ∀ b xs, H b = some (.tup xs) → H' b = some (.tup xs)
theorem TS.refl (H : Hp) : TS H H := fun _ _ h => h
theorem TS.trans {H H1 H2 : Hp} (a : TS H H1) (b : TS H1 H2) : TS H H2 := fun c xs h => b c xs (a c xs h)
theorem same_ts {H H' : Hp} (s : Same H H') : TS H H' := fun b xs h => s b _ h
theorem ts_new {H : Hp} {p : Addr} {o : HO} (h : H p = none) : TS H (upd H p o) := fun b xs e => by
  rw [upd_ne (ne_of_none e h)]
  exact e
theorem ts_lst {H : Hp} {p : Addr} {ys : List V} {o : HO} (h : H p = some (.lst ys)) : TS H (upd H p o) := fun b xs e => by
  rw [upd_ne (ne_of e h fun z => nomatch z)]
  exact e
theorem ts_ext {H : Hp} {p : Addr} {φ : Heap → Prop} {o : HO} (h : H p = some (.ext φ)) : TS H (upd H p o) := fun b xs e => by
  rw [upd_ne (ne_of e h fun z => nomatch z)]
  exact e
theorem ts_dK {H : Hp} {p : Addr} {kvs : List (Key × V)} {o : HO} (h : H p = some (.dK kvs)) : TS H (upd H p o) := fun b xs e => by
  rw [upd_ne (ne_of e h fun z => nomatch z)]
  exact e
theorem ts_ins {H : Hp} {p C dx : Addr} {fs : List (Str × V)} {o : HO} (h : H p = some (.ins C dx fs)) : TS H (upd H p o) := fun b xs e => by
  rw [upd_ne (ne_of e h fun z => nomatch z)]
  exact e
mutual
theorem Dat.ts {H H' : Hp} (t : TS H H') : ∀ (d : PyData) {v : V}, Dat H v d → Dat H' v d
  | .none, _, h => by cases h; exact .non
  | .bool b, _, h => by cases h; exact .bl b
  | .int i, _, h => by cases h; exact .int i
  | .str x, _, h => by cases h; exact .str x
  | .list ds, _, h => by cases h
  | .tuple ds, _, h => by
    cases h with
    | tup e q => exact .tup (t _ _ e) (Dats.ts t ds q)
  | .dict ds, _, h => by cases h
theorem Dats.ts {H H' : Hp} (t : TS H H') : ∀ (ds : List PyData) {vs : List V}, Dats H vs ds → Dats H' vs ds
  | [], _, h => by cases h; exact .nil
  | d :: ds, _, h => by
    cases h with
    | cons a b => exact .cons (Dat.ts t d a) (Dats.ts t ds b)
end
theorem Dat.to {H H' : Hp} {v : V} {d : PyData} (h : Dat H v d) (t : TS H H') : Dat H' v d := Dat.ts t d h
theorem Dats.to {H H' : Hp} {vs : List V} {ds : List PyData} (h : Dats H vs ds) (t : TS H H') : Dats H' vs ds := Dats.ts t ds h
theorem Dat.same {H H' : Hp} {v : V} {d : PyData} (h : Dat H v d) (s : Same H H') : Dat H' v d := h.to (same_ts s)
theorem Dats.same {H H' : Hp} {vs : List V} {ds : List PyData} (h : Dats H vs ds) (s : Same H H') : Dats H' vs ds := h.to (same_ts s)
mutual
theorem Dat.dp {K : PySem.W.Frag} {H : Hp} : ∀ (d : PyData) {v : V}, Dat H v d → Dp K H v d
  | .none, _, h => by cases h; exact .non
  | .bool b, _, h => by cases h; exact .bl b
  | .int i, _, h => by cases h; exact .int i
  | .str x, _, h => by cases h; exact .str x
  | .list ds, _, h => by cases h
  | .tuple ds, _, h => by
    cases h with
    | tup e q => exact .tup (SqT.of e) (Dats.dp ds q)
  | .dict ds, _, h => by cases h
theorem Dats.dp {K : PySem.W.Frag} {H : Hp} : ∀ (ds : List PyData) {vs : List V}, Dats H vs ds → DpAll K H vs ds
  | [], _, h => by cases h; exact .nil
  | d :: ds, _, h => by
    cases h with
    | cons a b => exact .cons (Dat.dp d a) (Dats.dp ds b)
end
section
variable {H : Hp} {v : V} {vs xs : List V} {ds es : List PyData} {d : PyData}
theorem Dat.tup_inv (h : Dat H v (.tuple ds)) : ∃ a xs, v = .ref a ∧ H a = some (.tup xs) ∧ Dats H xs ds := by
  cases h with
  | tup e q => exact ⟨_, _, rfl, e, q⟩
theorem Dat.int_inv {i : Int} (h : Dat H v (.int i)) : v = .int i := by cases h; rfl
theorem Dat.str_inv {x : Str} (h : Dat H v (.str x)) : v = .str x := by cases h; rfl
theorem Dat.non_inv (h : Dat H v .none) : v = .non := by cases h; rfl
theorem Dat.bl_inv {b : Bool} (h : Dat H v (.bool b)) : v = .bl b := by cases h; rfl
theorem Dats.length : ∀ {xs : List V} {ds : List PyData}, Dats H xs ds → xs.length = ds.length
  | _, _, .nil => rfl
  | _, _, .cons _ t => by rw [List.length_cons, List.length_cons, Dats.length t]
theorem Dats.get : ∀ {xs : List V} {ds : List PyData} {i : Nat} {d : PyData}, Dats H xs ds → ds[i]? = some d → ∃ v, xs[i]? = some v ∧ Dat H v d
  | _, _, _, _, .nil, e => by simp at e
  | _, _, 0, _, .cons q _, e => by
    have e' := Option.some.inj e
    subst e'
    exact ⟨_, rfl, q⟩
  | _, _, i + 1, _, .cons _ t, e => Dats.get (i := i) t (by simpa using e)
theorem Dats.at : ∀ {xs : List V} {ds : List PyData} {i : Nat} {v : V}, Dats H xs ds → xs[i]? = some v → ∃ d, ds[i]? = some d ∧ Dat H v d
  | _, _, _, _, .nil, e => by simp at e
  | _, _, 0, _, .cons q _, e => by
    have e' := Option.some.inj e
    subst e'
    exact ⟨_, rfl, q⟩
  | _, _, i + 1, _, .cons _ t, e => Dats.at (i := i) t (by simpa using e)
theorem Dats.app : ∀ {xs ys : List V} {ds es : List PyData}, Dats H xs ds → Dats H ys es → Dats H (xs ++ ys) (ds ++ es)
  | _, _, _, _, .nil, s => s
  | _, _, _, _, .cons q t, s => .cons q (Dats.app t s)
theorem Dats.snoc (h : Dats H xs ds) (q : Dat H v d) : Dats H (xs ++ [v]) (ds ++ [d]) := h.app (.cons q .nil)
theorem Dats.drop : ∀ {xs : List V} {ds : List PyData} (n : Nat), Dats H xs ds → Dats H (xs.drop n) (ds.drop n)
  | _, _, 0, h => h
  | _, _, n + 1, .nil => .nil
  | _, _, n + 1, .cons _ t => Dats.drop n t
theorem Dats.take : ∀ {xs : List V} {ds : List PyData} (n : Nat), Dats H xs ds → Dats H (xs.take n) (ds.take n)
  | _, _, 0, h => .nil
  | _, _, n + 1, .nil => .nil
  | _, _, n + 1, .cons q t => .cons q (Dats.take n t)
theorem Dats.one_inv (h : Dats H vs [d]) : ∃ v, vs = [v] ∧ Dat H v d := by
  cases h with
  | cons a t => cases t; exact ⟨_, rfl, a⟩
theorem Dats.two_inv {d e : PyData} (h : Dats H vs [d, e]) : ∃ v w, vs = [v, w] ∧ Dat H v d ∧ Dat H w e := by
  cases h with
  | cons a t =>
    obtain ⟨w, rfl, q⟩ := t.one_inv
    exact ⟨_, w, rfl, a, q⟩
theorem Dats.three_inv {d e f : PyData} (h : Dats H vs [d, e, f]) : ∃ v w u, vs = [v, w, u] ∧ Dat H v d ∧ Dat H w e ∧ Dat H u f := by
  cases h with
  | cons a t =>
    obtain ⟨w, u, rfl, q, r⟩ := t.two_inv
    exact ⟨_, w, u, rfl, a, q, r⟩
theorem Dats.four_inv {d e f g : PyData} (h : Dats H vs [d, e, f, g]) : ∃ v w u z, vs = [v, w, u, z] ∧ Dat H v d ∧ Dat H w e ∧ Dat H u f ∧ Dat H z g := by
  cases h with
  | cons a t =>
    obtain ⟨w, u, z, rfl, q, r, s⟩ := t.three_inv
    exact ⟨_, w, u, z, rfl, a, q, r, s⟩
end

/-! ### the same but for what was not there -/
theorem same_new {H0 H : Hp} {p : Addr} {o : HO} (s : Same H0 H) (h : H p = none) : Same H0 (upd H p o) := fun b u e => by
  rw [upd_ne (ne_of_none (s b u e) h)]
  exact s b u e
theorem same_set {H0 H : Hp} {p : Addr} {o : HO} (s : Same H0 H) (h : H0 p = none) : Same H0 (upd H p o) := fun b u e => by
  rw [upd_ne (ne_of_none e h)]
  exact s b u e
theorem free_of {H0 H : Hp} {p : Addr} (s : Same H0 H) (h : H p = none) : H0 p = none := s.free h

/-! ### what the data are -/
def sD (w : W) : PyData := .str (S w)
def plD (p : Pl) : PyData := .tuple [.int p.s, .int p.t, .tuple [sD p.x, sD p.y]]
def enD (e : W × Nat) : PyData := .tuple [sD e.1, .int e.2]
def rowD (r : W × List (W × Nat)) : PyData := .tuple [sD r.1, .tuple (r.2.map enD)]
def mD (M : Mach) : PyData := .tuple [.int M.k, sD M.first, .tuple (M.rows.map rowD)]
def mvD (m : Move) : PyData := .tuple [sD m.1, sD m.2.1, .int m.2.2]
def goD (g : Go) : PyData := .tuple [sD g.1, sD g.2.1, plD g.2.2]
def restD : Option (W × W) → PyData
  | none => .none
  | some r => .tuple [sD r.1, sD r.2]
/-- a beginning with the state and both letters -/
abbrev Bg := Nat × W × W × Pl
def bgD (q : Bg) : PyData := .tuple [.int q.1, sD q.2.1, sD q.2.2.1, plD q.2.2.2]
/-- the words that lead to a place -/
abbrev Wd := Nat × W × W
def wdD (q : Wd) : PyData := .tuple [.int q.1, sD q.2.1, sD q.2.2]
/-- a law's move: what is written, the next state -/
abbrev Lm := W × Int
def lmD (m : Lm) : PyData := .tuple [sD m.1, .int m.2]

theorem eqv_str (x y : W) : PyData.eqv (sD x) (sD y) = decide (x = y) := by
  unfold sD
  rw [PyData.eqv]
  rw [show (S x == S y) = decide (S x = S y) from rfl, S_eq]
theorem eqv_int (i j : Int) : PyData.eqv (.int i) (.int j) = decide (i = j) := by
  rw [PyData.eqv]
  rfl
theorem eqv_pl (p q : Pl) : PyData.eqv (plD p) (plD q) = decide (p = q) := by
  obtain ⟨s, t, x, y⟩ := p
  obtain ⟨s', t', x', y'⟩ := q
  unfold plD
  simp only [PyData.eqv, PyData.eqvAll, Bool.and_true]
  have h1 := eqv_str x x'
  have h2 := eqv_str y y'
  rw [h1, h2]
  by_cases e : (⟨s, t, x, y⟩ : Pl) = ⟨s', t', x', y'⟩
  · cases e
    simp
  · rw [decide_eq_false e]
    by_cases e1 : s = s'
    · by_cases e2 : t = t'
      · by_cases e3 : x = x'
        · have e4 : ¬ y = y' := fun z => e (by rw [e1, e2, e3, z])
          simp [e4]
        · simp [e3]
      · have : (t == t') = false := beq_eq_false_iff_ne.mpr e2
        simp [this]
    · have : (s == s') = false := beq_eq_false_iff_ne.mpr e1
      simp [this]

/-- the machine stands at v -/
theorem mach_inv {H : Hp} {v : V} {M : Mach} (h : Dat H v (mD M)) : ∃ a r rs, v = .ref a ∧ H a = some (.tup [.int M.k, .str (S M.first), .ref r]) ∧ H r = some (.tup rs) ∧ Dats H rs (M.rows.map rowD) := by
  obtain ⟨a, xs, rfl, e, q⟩ := h.tup_inv
  obtain ⟨v1, v2, v3, rfl, q1, q2, q3⟩ := q.three_inv
  obtain ⟨r, rs, rfl, e2, q4⟩ := q3.tup_inv
  rw [q1.int_inv, Dat.str_inv q2] at e
  exact ⟨a, r, rs, rfl, e, e2, q4⟩
theorem row_inv {H : Hp} {v : V} {r : W × List (W × Nat)} (h : Dat H v (rowD r)) : ∃ a e es, v = .ref a ∧ H a = some (.tup [.str (S r.1), .ref e]) ∧ H e = some (.tup es) ∧ Dats H es (r.2.map enD) := by
  obtain ⟨a, xs, rfl, e, q⟩ := h.tup_inv
  obtain ⟨v1, v2, rfl, q1, q2⟩ := q.two_inv
  obtain ⟨f, es, rfl, e2, q4⟩ := q2.tup_inv
  rw [Dat.str_inv q1] at e
  exact ⟨a, f, es, rfl, e, e2, q4⟩
theorem en_inv {H : Hp} {v : V} {e : W × Nat} (h : Dat H v (enD e)) : ∃ a, v = .ref a ∧ H a = some (.tup [.str (S e.1), .int e.2]) := by
  obtain ⟨a, xs, rfl, e, q⟩ := h.tup_inv
  obtain ⟨v1, v2, rfl, q1, q2⟩ := q.two_inv
  rw [Dat.str_inv q1, q2.int_inv] at e
  exact ⟨a, rfl, e⟩
theorem pl_inv {H : Hp} {v : V} {p : Pl} (h : Dat H v (plD p)) : ∃ a b, v = .ref a ∧ H a = some (.tup [.int p.s, .int p.t, .ref b]) ∧ H b = some (.tup [.str (S p.x), .str (S p.y)]) := by
  obtain ⟨a, xs, rfl, e, q⟩ := h.tup_inv
  obtain ⟨v1, v2, v3, rfl, q1, q2, q3⟩ := q.three_inv
  obtain ⟨b, ys, rfl, e2, q4⟩ := q3.tup_inv
  obtain ⟨w1, w2, rfl, q5, q6⟩ := q4.two_inv
  rw [q1.int_inv, q2.int_inv] at e
  rw [Dat.str_inv q5, Dat.str_inv q6] at e2
  exact ⟨a, b, rfl, e, e2⟩
theorem pl_mk {H : Hp} {a b : Addr} {p : Pl} (h : H a = some (.tup [.int p.s, .int p.t, .ref b])) (h2 : H b = some (.tup [.str (S p.x), .str (S p.y)])) : Dat H (.ref a) (plD p) :=
  .tup h (.cons (.int _) (.cons (.int _) (.cons (.tup h2 (.cons (.str _) (.cons (.str _) .nil))) .nil)))
theorem mv_inv {H : Hp} {v : V} {m : Move} (h : Dat H v (mvD m)) : ∃ a, v = .ref a ∧ H a = some (.tup [.str (S m.1), .str (S m.2.1), .int m.2.2]) := by
  obtain ⟨a, xs, rfl, e, q⟩ := h.tup_inv
  obtain ⟨v1, v2, v3, rfl, q1, q2, q3⟩ := q.three_inv
  rw [Dat.str_inv q1, Dat.str_inv q2, q3.int_inv] at e
  exact ⟨a, rfl, e⟩
theorem lm_inv {H : Hp} {v : V} {m : Lm} (h : Dat H v (lmD m)) : ∃ a, v = .ref a ∧ H a = some (.tup [.str (S m.1), .int m.2]) := by
  obtain ⟨a, xs, rfl, e, q⟩ := h.tup_inv
  obtain ⟨v1, v2, rfl, q1, q2⟩ := q.two_inv
  rw [Dat.str_inv q1, q2.int_inv] at e
  exact ⟨a, rfl, e⟩
theorem go_inv {H : Hp} {v : V} {g : Go} (h : Dat H v (goD g)) : ∃ a p, v = .ref a ∧ H a = some (.tup [.str (S g.1), .str (S g.2.1), p]) ∧ Dat H p (plD g.2.2) := by
  obtain ⟨a, xs, rfl, e, q⟩ := h.tup_inv
  obtain ⟨v1, v2, v3, rfl, q1, q2, q3⟩ := q.three_inv
  rw [Dat.str_inv q1, Dat.str_inv q2] at e
  exact ⟨a, v3, rfl, e, q3⟩
theorem bg_inv {H : Hp} {v : V} {g : Bg} (h : Dat H v (bgD g)) : ∃ a p, v = .ref a ∧ H a = some (.tup [.int g.1, .str (S g.2.1), .str (S g.2.2.1), p]) ∧ Dat H p (plD g.2.2.2) := by
  obtain ⟨a, xs, rfl, e, q⟩ := h.tup_inv
  obtain ⟨v1, v2, v3, v4, rfl, q1, q2, q3, q4⟩ := q.four_inv
  rw [q1.int_inv, Dat.str_inv q2, Dat.str_inv q3] at e
  exact ⟨a, v4, rfl, e, q4⟩
theorem wd_inv {H : Hp} {v : V} {g : Wd} (h : Dat H v (wdD g)) : ∃ a, v = .ref a ∧ H a = some (.tup [.int g.1, .str (S g.2.1), .str (S g.2.2)]) := by
  obtain ⟨a, xs, rfl, e, q⟩ := h.tup_inv
  obtain ⟨v1, v2, v3, rfl, q1, q2, q3⟩ := q.three_inv
  rw [q1.int_inv, Dat.str_inv q2, Dat.str_inv q3] at e
  exact ⟨a, rfl, e⟩
theorem rest_inv {H : Hp} {v : V} {o : Option (W × W)} (h : Dat H v (restD o)) : (o = none ∧ v = .non) ∨ ∃ r a, o = some r ∧ v = .ref a ∧ H a = some (.tup [.str (S r.1), .str (S r.2)]) := by
  cases o with
  | none => exact .inl ⟨rfl, h.non_inv⟩
  | some r =>
    obtain ⟨a, xs, rfl, e, q⟩ := h.tup_inv
    obtain ⟨v1, v2, rfl, q1, q2⟩ := q.two_inv
    rw [Dat.str_inv q1, Dat.str_inv q2] at e
    exact .inr ⟨r, a, rfl, rfl, e⟩
/-- the row of a state -/
theorem row_at {H : Hp} {rs : List V} {M : Mach} (h : Dats H rs (M.rows.map rowD)) {s : Nat} (hs : s < M.rows.length) :
    ∃ r e es, rs[s]? = some (.ref r) ∧ H r = some (.tup [.str (S (M.last s)), .ref e]) ∧ H e = some (.tup es) ∧ Dats H es ((M.ents s).map enD) := by
  have g : (M.rows.map rowD)[s]? = some (rowD (M.row s)) := by
    rw [List.getElem?_map, List.getElem?_eq_getElem hs]
    unfold Mach.row
    rw [List.getD_eq_getElem?_getD, List.getElem?_eq_getElem hs]
    rfl
  obtain ⟨v, e, q⟩ := h.get g
  obtain ⟨a, f, es, rfl, e1, e2, e3⟩ := row_inv q
  exact ⟨a, f, es, e, e1, e2, e3⟩
theorem en_at {H : Hp} {es : List V} {l : List (W × Nat)} (h : Dats H es (l.map enD)) {i : Nat} {e : W × Nat} (he : l[i]? = some e) : ∃ q, es[i]? = some (.ref q) ∧ H q = some (.tup [.str (S e.1), .int e.2]) := by
  obtain ⟨v, g, q⟩ := h.get (i := i) (d := enD e) (by rw [List.getElem?_map, he]; rfl)
  obtain ⟨a, rfl, e1⟩ := en_inv q
  exact ⟨a, g, e1⟩

/-! ### the promises' common ends -/
/-- a value of that data, all that stood as it was -/
def RetV (d : PyData) (H : Hp) (Q : VK) : Prop := ∀ v H', Same H H' → Dat H' v d → Q v H'
/-- a new list of such items -/
def RetL (ds : List PyData) (H : Hp) (Q : VK) : Prop := ∀ l xs H', Same H H' → H l = none → H' l = some (.lst xs) → Dats H' xs ds → Q (.ref l) H'
end K67

/-! K2Dict: dicts whose keys are places; more rules. -/
namespace K67
open PySem PySem.Spec PyProof.Rows L2

/-! ### a place as a key -/
def plK (p : Pl) : NestedKey := .tup [.num p.s, .num p.t, .tup [.text (S p.x), .text (S p.y)]]
theorem plK_inj {p q : Pl} (h : plK p = plK q) : p = q := by
  obtain ⟨s, t, x, y⟩ := p
  obtain ⟨s', t', x', y'⟩ := q
  unfold plK at h
  simp only [NestedKey.tup.injEq, List.cons.injEq, NestedKey.num.injEq, NestedKey.text.injEq, and_true] at h
  obtain ⟨h1, h2, h3, h4⟩ := h
  rw [h1, h2, S_inj h3, S_inj h4]
theorem plK_depth (p : Pl) : (plK p).depth ≤ 8 := by
  simp [plK, NestedKey.depth, NestedKey.depthAll]
theorem plK_is {P : Program} {w : World} {H : Hp} {h : Heap} (ok : HOk P w H h) {a : Addr} {p : Pl} (d : Dat H (.ref a) (plD p)) : (nestedKind P w).is h (plK p) a := by
  obtain ⟨a', b, e, h1, h2⟩ := pl_inv d
  cases e
  obtain ⟨_, its, r1, o1, g1, c1, n1, d1⟩ := (show ObjOk P w H h a (.tup _) from ok _ _ h1)
  obtain ⟨_, its2, r2, o2, g2, c2, n2, d2⟩ := (show ObjOk P w H h b (.tup _) from ok _ _ h2)
  refine ⟨?_, plK_depth p⟩
  refine .tup g1 c1 d1 ?_
  cases r1 with
  | cons x1 r1 =>
    cases r1 with
    | cons x2 r1 =>
      cases r1 with
      | cons x3 r1 =>
        cases r1
        obtain ⟨t1, rfl⟩ := x1
        obtain ⟨t2, rfl⟩ := x2
        cases x3
        refine .cons (.int _ _) (.cons (.int _ _) (.cons (.tup g2 c2 d2 ?_) .nil))
        cases r2 with
        | cons y1 r2 =>
          cases r2 with
          | cons y2 r2 =>
            cases r2
            obtain ⟨u1, rfl⟩ := y1
            obtain ⟨u2, rfl⟩ := y2
            exact .cons (.text _ _) (.cons (.text _ _) .nil)

/-! ### a dict by places: the place, its tuple's address, the value -/
abbrev PKV := Pl × Addr × V
def valP (kvs : List PKV) (p : Pl) : Option V := (kvs.find? fun q => decide (q.1 = p)).map fun q => q.2.2
def putP (kvs : List PKV) (p : Pl) (b : Addr) (v : V) : List PKV := if (valP kvs p).isSome = true then kvs.map fun q => if q.1 = p then (q.1, q.2.1, v) else q else kvs ++ [(p, b, v)]
def RelP (q : PKV) (x : NestedKey × Addr × Value) : Prop := x.1 = plK q.1 ∧ x.2.1 = q.2.1 ∧ RelV q.2.2 x.2.2
def DN (P : Program) (w : World) (a : Addr) (kvs : List PKV) : HO := .ext fun h => (a == sysModules) = false ∧ kvs.length ≤ sizeLine ∧
  ∃ (xs : List (NestedKey × Addr × Value)) (o : Obj) (es : Array DictEntry) (ep : Nat), Paired RelP kvs xs ∧ h.get? a = some o ∧ o.ExactDict ∧ o.data = .dict es ep ∧ es.toList = xs.map (entryOfKey (nestedKind P w)) ∧ (xs.map (·.1)).Nodup
/-- the keys' tuples stand -/
def KeysIn (H : Hp) (kvs : List PKV) : Prop := ∀ q ∈ kvs, Dat H (.ref q.2.1) (plD q.1)
theorem KeysIn.to {H H' : Hp} {kvs : List PKV} (h : KeysIn H kvs) (t : TS H H') : KeysIn H' kvs := fun q hq => (h q hq).to t
theorem keysIn_nil {H : Hp} : KeysIn H [] := fun _ h => nomatch h
theorem keysIn_put {H : Hp} {kvs : List PKV} {p : Pl} {b : Addr} {v : V} (h : KeysIn H kvs) (d : Dat H (.ref b) (plD p)) : KeysIn H (putP kvs p b v) := fun q hq => by
  unfold putP at hq
  split at hq
  · obtain ⟨r, hr, e⟩ := List.mem_map.mp hq
    subst e
    split
    · exact h r hr
    · exact h r hr
  · rcases List.mem_append.mp hq with hq | hq
    · exact h q hq
    · have e : q = (p, b, v) := by simpa using hq
      subst e
      exact d
theorem putP_new {kvs : List PKV} {p : Pl} {b : Addr} {v : V} (h : valP kvs p = none) : putP kvs p b v = kvs ++ [(p, b, v)] := by
  unfold putP
  rw [h]
  rfl
theorem putP_keys_old {kvs : List PKV} {p : Pl} {b : Addr} {v : V} (h : (valP kvs p).isSome = true) : (putP kvs p b v).map (·.1) = kvs.map (·.1) ∧ (putP kvs p b v).map (·.2.1) = kvs.map (·.2.1) := by
  unfold putP
  rw [if_pos h, List.map_map, List.map_map]
  constructor
  · refine List.map_congr_left fun q _ => ?_
    show (if q.1 = p then (q.1, q.2.1, v) else q).1 = q.1
    split <;> rfl
  · refine List.map_congr_left fun q _ => ?_
    show (if q.1 = p then (q.1, q.2.1, v) else q).2.1 = q.2.1
    split <;> rfl
theorem valP_some {kvs : List PKV} {p : Pl} : (valP kvs p).isSome = true ↔ p ∈ kvs.map (·.1) := by
  unfold valP
  rw [Option.isSome_map, List.find?_isSome]
  constructor
  · rintro ⟨q, hq, e⟩
    exact List.mem_map.mpr ⟨q, hq, of_decide_eq_true e⟩
  · intro h
    obtain ⟨q, hq, e⟩ := List.mem_map.mp h
    exact ⟨q, hq, decide_eq_true e⟩
theorem valP_none {kvs : List PKV} {p : Pl} : valP kvs p = none ↔ p ∉ kvs.map (·.1) := by
  rw [← valP_some]
  cases valP kvs p <;> simp
theorem valP_mem {kvs : List PKV} {p : Pl} {v : V} (h : valP kvs p = some v) : ∃ b, (p, b, v) ∈ kvs := by
  unfold valP at h
  obtain ⟨q, hq, e⟩ := Option.map_eq_some_iff.mp h
  have h1 := List.find?_some hq
  have h2 := List.mem_of_find?_eq_some hq
  have e1 : q.1 = p := of_decide_eq_true h1
  exact ⟨q.2.1, by rw [← e1, ← e]; exact h2⟩
theorem valP_of_mem {kvs : List PKV} {q : PKV} (h : q ∈ kvs) : ∃ v, valP kvs q.1 = some v := by
  have : (valP kvs q.1).isSome = true := valP_some.mpr (List.mem_map.mpr ⟨q, h, rfl⟩)
  exact Option.isSome_iff_exists.mp this
theorem putP_len (kvs : List PKV) (p : Pl) (b : Addr) (v : V) : (putP kvs p b v).length ≤ kvs.length + 1 := by
  unfold putP
  split
  · rw [List.length_map]; omega
  · rw [List.length_append]; exact Nat.le_refl _
/-- in a list without repetitions the entry itself -/
theorem valP_at {kvs : List PKV} (nd : (kvs.map (·.1)).Nodup) {p : Pl} {b : Addr} {v : V} (h : (p, b, v) ∈ kvs) : valP kvs p = some v := by
  induction kvs with
  | nil => cases h
  | cons q kvs ih =>
    rw [List.map_cons, List.nodup_cons] at nd
    unfold valP
    rcases List.mem_cons.mp h with e | h
    · subst e
      simp
    · have ne : ¬ q.1 = p := fun e => nd.1 (by rw [e]; exact List.mem_map.mpr ⟨_, h, rfl⟩)
      rw [List.find?_cons, decide_eq_false ne]
      exact ih nd.2 h
section
variable {kvs : List PKV} {xs : List (NestedKey × Addr × Value)}
theorem relP_at (r : Paired RelP kvs xs) (p : Pl) : RelO (valP kvs p) ((atKey xs (plK p)).map (·.2)) := by
  induction r with
  | nil => exact True.intro
  | @cons q x kvs xs r _ ih =>
    obtain ⟨e1, e2, e3⟩ := r
    unfold valP atKey
    by_cases e : q.1 = p
    · have e' : x.1 = plK p := by rw [e1, e]
      rw [List.find?_cons, List.find?_cons, decide_eq_true e, decide_eq_true e']
      exact e3
    · have e' : ¬ x.1 = plK p := fun z => e (plK_inj (e1.symm.trans z))
      rw [List.find?_cons, List.find?_cons, decide_eq_false e, decide_eq_false e']
      exact ih
theorem relP_put (r : Paired RelP kvs xs) (p : Pl) (b : Addr) {v : V} {u : Value} (rv : RelV v u) : Paired RelP (putP kvs p b v) (storedH xs (plK p) b u) := by
  have q := (relP_at r p).isSome_eq
  rw [Option.isSome_map] at q
  unfold putP storedH
  by_cases h : (valP kvs p).isSome = true
  · rw [if_pos h, if_pos (by rw [← q]; exact h)]
    clear q h
    induction r with
    | nil => exact .nil
    | @cons q x kvs xs r t ih =>
      refine .cons ?_ ih
      obtain ⟨e1, e2, e3⟩ := r
      unfold putAt
      show RelP (if q.1 = p then (q.1, q.2.1, v) else q) (if x.1 = plK p then (x.1, x.2.1, u) else x)
      by_cases e : q.1 = p
      · rw [if_pos e, if_pos (by rw [e1, e])]
        exact ⟨e1, e2, rv⟩
      · rw [if_neg e, if_neg fun z => e (plK_inj (e1.symm.trans z))]
        exact ⟨e1, e2, e3⟩
  · rw [if_neg h, if_neg (by rw [← q]; exact h)]
    clear q h
    induction r with
    | nil => exact .cons ⟨rfl, rfl, rv⟩ .nil
    | cons r t ih => exact .cons r ih
theorem relP_keys (r : Paired RelP kvs xs) : xs.map (·.1) = kvs.map fun q => plK q.1 := by
  induction r with
  | nil => rfl
  | cons r t ih => rw [List.map_cons, List.map_cons, ih, r.1]
end
section
variable {X : Cx} {pins : List (Addr × Obj)} {σ : L2.St} {H : Hp} {s : Shared} {a : Addr} {kvs : List PKV}
theorem dn_of (I : Inv X pins σ H s) (e : H a = some (DN X.prog X.w a kvs)) (hk : KeysIn H kvs) :
    (a == sysModules) = false ∧ kvs.length ≤ sizeLine ∧ ∃ xs, Paired RelP kvs xs ∧ s.heap.DictOfH (nestedKind X.prog X.w) a xs := by
  obtain ⟨⟨h1, h2, xs, o, es, ep, r, ho, hc, hd, he, nd⟩, _, _⟩ := (show ObjOk X.prog X.w H s.heap a (.ext _) from I.hok a _ e)
  refine ⟨h1, h2, xs, r, o, es, ep, ho, hc, hd, he, fun x hx => ?_, nd⟩
  obtain ⟨j, hj⟩ := List.mem_iff_getElem?.mp hx
  have go : ∀ {kvs : List PKV} {xs : List (NestedKey × Addr × Value)}, Paired RelP kvs xs → x ∈ xs → ∃ q ∈ kvs, RelP q x := by
    intro kvs xs r
    induction r with
    | nil => intro h; cases h
    | cons r t ih =>
      intro h
      rcases List.mem_cons.mp h with e | h
      · subst e
        exact ⟨_, List.mem_cons_self, r⟩
      · obtain ⟨q, hq, z⟩ := ih h
        exact ⟨q, List.mem_cons_of_mem _ hq, z⟩
  obtain ⟨q, hq, e1, e2, e3⟩ := go r hx
  rw [e1, e2]
  exact plK_is I.hok (hk q hq)
/-- the keys are all different -/
theorem dn_nodup (I : Inv X pins σ H s) (e : H a = some (DN X.prog X.w a kvs)) : (kvs.map (·.1)).Nodup := by
  obtain ⟨⟨h1, h2, xs, o, es, ep, r, ho, hc, hd, he, nd⟩, _, _⟩ := (show ObjOk X.prog X.w H s.heap a (.ext _) from I.hok a _ e)
  rw [relP_keys r, show (kvs.map fun q => plK q.1) = (kvs.map (·.1)).map plK by rw [List.map_map]; rfl] at nd
  have go : ∀ l : List Pl, (l.map plK).Nodup → l.Nodup := by
    intro l
    induction l with
    | nil => intro _; exact List.nodup_nil
    | cons p l ih =>
      intro h
      rw [List.map_cons, List.nodup_cons] at h
      exact List.nodup_cons.mpr ⟨fun z => h.1 (List.mem_map.mpr ⟨p, z, rfl⟩), ih h.2⟩
  exact go _ nd
theorem dn_ok {P : Program} {w : World} {H' : Hp} {h' : Heap} {xs : List (NestedKey × Addr × Value)} (z : kvs.length ≤ sizeLine) (hd : (a == sysModules) = false) (rel : Paired RelP kvs xs) (dd : h'.DictOfH (nestedKind P w) a xs) :
    ObjOk P w H' h' a (DN P w a kvs) := by
  obtain ⟨o, es, ep, ho, hc, hda, he, _, nd⟩ := dd
  refine ⟨⟨hd, z, xs, o, es, ep, rel, ho, hc, hda, he, nd⟩, ⟨o, ho⟩, fun h1 h2 q k => ?_⟩
  obtain ⟨q1, q2, xs', o', es', ep', q3, q4, q5, q6, q7, q8⟩ := q
  exact ⟨q1, q2, xs', o', es', ep', q3, k _ q4, q5, q6, q7, q8⟩
theorem nroom {A : Around} (hu : A.units + 20 < cLine) : (nestedKind X.prog X.w).room A.in1 := by
  show A.units + 1 + 8 < cLine
  omega
end
theorem vals_by : ∀ {xs : List V} {us : List Value}, xs.length = us.length → (∀ (i : Nat) v u, xs[i]? = some v → us[i]? = some u → RelV v u) → Vals xs us
  | [], [], _, _ => .nil
  | [], _ :: _, h, _ => by cases h
  | _ :: _, [], h, _ => by cases h
  | x :: xs, u :: us, h, f => .cons (f 0 x u rfl rfl) (vals_by (Nat.succ.inj h) fun i v w e1 e2 => f (i + 1) v w e1 e2)
section
variable {X : Cx}
/-- y in d -/
def rInN (P : Program) (w : World) : R2 := fun y x H Q => ∃ a kvs p, x = .ref a ∧ H a = some (DN P w a kvs) ∧ KeysIn H kvs ∧ Dat H y (plD p) ∧ Q (.bl (valP kvs p).isSome) H
theorem op_inN (hu : X.A.units + 20 < cLine) : OpR X (compareOp .In) (rInN X.prog X.w) := by
  intro pins s σ H x y v u Q I rx ry h
  obtain ⟨a, kvs, p, e, hd, hk, dy, q⟩ := h
  subst e
  cases ry
  obtain ⟨z1, z2, xs, r, dd⟩ := dn_of I hd hk
  obtain ⟨b, _, e, _, _⟩ := pl_inv dy
  subst e
  cases rx
  refine wpAny_in_heap (nroom (X := X) hu) (plK_is I.hok dy) z1 dd ?_
  have g := (relP_at r p).isSome_eq
  rw [Option.isSome_map] at g
  rw [← g]
  exact ⟨.bl _, H, I.tok _, rfl, q⟩
/-- d[y] = v -/
def rSetN (P : Program) (w : World) : V → V → V → Hp → (Hp → Prop) → Prop := fun o i v H Q => ∃ a b kvs p, o = .ref a ∧ i = .ref b ∧ H a = some (DN P w a kvs) ∧ KeysIn H kvs ∧ Dat H i (plD p) ∧ kvs.length < sizeLine ∧ Q (upd H a (DN P w a (putP kvs p b v)))
theorem set_n (hu : X.A.units + 20 < cLine) : PSet X (rSetN X.prog X.w) := by
  intro pins s σ H o i v ov iv u Q I ro ri rv h
  obtain ⟨a, b, kvs, p, rfl, rfl, hd, hk, dy, hl, q⟩ := h
  cases ro
  cases ri
  obtain ⟨z1, z2, xs, r, dd⟩ := dn_of I hd hk
  have hz : xs.length ≤ sizeLine := by rw [← Paired.length r]; exact z2
  refine wpAny_setItem_heap (hsz := hz) (nroom (X := X) hu) (plK_is I.hok dy) dd fun h' dd' hs => ?_
  have hl2 : (putP kvs p b v).length ≤ sizeLine := by have := putP_len kvs p b v; omega
  have he : ∃ q, h'.get? a = some q := let ⟨q, _, _, hq, _⟩ := dd'; ⟨q, hq⟩
  exact ⟨_, d_write I (by rw [hd]; exact True.intro) hs he (dn_ok hl2 z1 (relP_put r p b rv) dd'), q⟩
/-- d[y] -/
def tNGet (P : Program) (w : World) (td ty : TE) : TE := fun σ H Q => td σ H fun x H1 => ty σ H1 fun y H2 => ∃ a kvs p v, x = .ref a ∧ H2 a = some (DN P w a kvs) ∧ KeysIn H2 kvs ∧ Dat H2 y (plD p) ∧ valP kvs p = some v ∧ Q v H2
theorem pe_nget {o i : Expr} {td ty : TE} {pos : Pos} (hu : X.A.units + 20 < cLine) (ho : PE X o td) (hi : PE X i ty) (hs : NoSl i) : PE X (.Subscript o i pos) (tNGet X.prog X.w td ty) := by
  refine ⟨fun pins s σ H Q I h => ?_⟩
  refine subD_of PySem.F.slot_dict_getitem.lookup hs (thn (ho.run pins s σ H _ I h) fun u s1 ⟨x, H1, I1, rx, q1⟩ => thn (hi.run pins s1 σ H1 _ I1 q1) fun iv s2 ⟨y, H2, I2, ry, a, kvs, p, v, ex, hd, hk, dy, hv, q2⟩ => ?_)
  subst ex
  cases rx
  obtain ⟨z1, z2, xs, r, dd⟩ := dn_of I2 hd hk
  obtain ⟨b, _, e, _, _⟩ := pl_inv dy
  subst e
  cases ry
  obtain ⟨w', hw, rw'⟩ := RelO.some_of (v := v) (o := (atKey xs (plK p)).map (·.2)) (by rw [← hv]; exact relP_at r p)
  obtain ⟨z, hz, hz2⟩ := Option.map_eq_some_iff.mp hw
  refine ⟨dd.typeIs, wpAny_getItem_heap (nroom (X := X) hu) (plK_is I2.hok dy) dd hz ?_⟩
  rw [hz2]
  exact ⟨v, H2, I2.tok _, rw', q2⟩
/-- len(d) -/
def rLenN (P : Program) (w : World) : List V → Hp → VK → Prop := fun xs H Q => ∃ a kvs, xs = [.ref a] ∧ H a = some (DN P w a kvs) ∧ KeysIn H kvs ∧ Q (.int kvs.length) H
theorem call_lenN : CallR X (.builtin "len") (rLenN X.prog X.w) := by
  intro pins s σ H xs us Q I rx h
  obtain ⟨a, kvs, e, hd, hk, q⟩ := h
  subst e
  obtain ⟨u, rfl, ru⟩ := rx.one
  cases ru
  obtain ⟨z1, z2, ys, r, dd⟩ := dn_of I hd hk
  have el := Paired.length r
  refine PyProof.Rows.call_len_slot (n := (kvs.length : Int)) dd.typeIs F.slot_dict_len (fun Q' hq => ?_) (by omega) (by have := line63; omega) ?_
  · have dk : s.heap.DictKeyed (nestedKind X.prog X.w) a (pairsH ys) := ⟨ys, dd, rfl⟩
    refine len_keyed z1 dk ?_
    rw [pairsH_length, ← el]
    exact hq
  · exact ⟨.int _, H, I.tok _, ⟨_, rfl⟩, q⟩
/-- list(d) -/
def rListN (P : Program) (w : World) : List V → Hp → VK → Prop := fun xs H Q => ∃ a kvs, xs = [.ref a] ∧ H a = some (DN P w a kvs) ∧ KeysIn H kvs ∧ ∀ l, H l = none → Q (.ref l) (upd H l (.lst (kvs.map fun q => .ref q.2.1)))
theorem call_listN (hc : X.calm = true) : CallR X (.type "list") (rListN X.prog X.w) := by
  intro pins s σ H xs us Q I rx h
  obtain ⟨a, kvs, e, hd, hk, q⟩ := h
  subst e
  obtain ⟨u, rfl, ru⟩ := rx.one
  cases ru
  obtain ⟨z1, z2, ys, r, dd⟩ := dn_of I hd hk
  have el := Paired.length r
  obtain ⟨es, ep, hr, hsz, he⟩ := dd.raw
  refine PySem.W.kdl_call (KdlSrc.rawDict z1) (I.ok.hd hc) hr (by rw [hsz, ← el]; exact z2) fun h' tk acc c hk' hS hacc => ?_
  have hn : H s.heap.objs.size = none := I.hok.fresh (Nat.le_refl _)
  refine ⟨.ref s.heap.objs.size, _, I.laid (t' := tk) hk' (Nat.le_refl _) ?_, rfl, q _ hn⟩
  refine ⟨by rw [List.length_map]; exact z2, acc.toList, c, ?_, by rw [Array.toArray_toList]; exact hS⟩
  obtain ⟨hsa, hat⟩ := hacc
  have lenA : acc.toList.length = kvs.length := by rw [Array.length_toList, hsa, hsz, el]
  refine vals_by (by rw [List.length_map, lenA]) fun i v u e1 e2 => ?_
  rw [List.getElem?_map] at e1
  obtain ⟨q0, hq0, rfl⟩ := Option.map_eq_some_iff.mp e1
  obtain ⟨hi, rfl⟩ := hat i u (by rw [← Array.getElem?_toList]; exact e2)
  obtain ⟨y, hy, hkey, _, _⟩ := he i hi
  obtain ⟨x, hx, rx⟩ := paired_get r hq0
  rw [hx] at hy
  cases hy
  rw [hkey, rx.2.1]
  rfl

/-! ### a new dict -/
def tNNew (P : Program) (w : World) : TE := fun _ H Q => ∀ p, H p = none → Q (.ref p) (upd H p (DN P w p []))
theorem dn_empty {P : Program} {w : World} {H : Hp} (h : Heap) (hb : sysModules < h.objs.size) : ObjOk P w H (h.push { cls := .type "dict", data := .dict #[] }) h.objs.size (DN P w h.objs.size []) :=
  dn_ok (Nat.zero_le _) (beq_eq_false_iff_ne.mpr (Nat.ne_of_gt hb)) .nil (Heap.DictOfH.new h)
theorem pe_nnew {pos : Pos} : PE X (.Dict [] [] pos) (tNNew X.prog X.w) := by
  refine ⟨fun pins s σ H Q I h => wpAny_Dict_empty ?_⟩
  have e0 : H s.heap.objs.size = none := I.hok.fresh (Nat.le_refl _)
  have ok := dn_empty (P := X.prog) (w := X.w) (H := upd H s.heap.objs.size (DN X.prog X.w s.heap.objs.size [])) s.heap I.big
  have I1 := I.laid (t' := s.toks) (fun b o e => Heap.get?_push_of_some _ e) (Nat.le_refl _) ok
  exact ⟨.ref s.heap.objs.size, _, I1, rfl, h _ e0⟩

/-! ### list.count of data -/
def rCntD (K : PySem.W.Frag) : V → List V → Hp → VK → Prop := fun x xs H Q => ∃ (p : Addr) (y : V) (d : PyData) (ds : List PyData), x = .ref p ∧ xs = [y] ∧ Dp K H (.ref p) (.list ds) ∧ Dp K H y d ∧ SeqAt.shaped (.list ds) = true ∧ SeqAt.shaped d = true ∧
  Q (.int (ds.countP fun z => PyData.eqv z d : Nat)) H
theorem mt_countD (hu : X.A.units + 65 < cLine) : MtR X "list.count" (rCntD X.K) := by
  intro pins s σ H x xs v us Q I rx rxs h
  obtain ⟨p, y, d, ds, ex, exs, hl, hy, sl, sd, q⟩ := h
  subst ex exs
  cases rx
  obtain ⟨uy, rfl, ry⟩ := rxs.one
  obtain ⟨bs, rb⟩ := Dp.reads I d y uy hy ry
  have lay := SeqAt.canLay_of_shaped sl
  have room : X.A.units + 1 + min (PyData.depthAll ds) d.depth < cLine := room_in_shaped sd hu
  cases hl with
  | lst hs ha =>
    obtain ⟨its, rv, ⟨⟨cl, dd, dt, sls⟩, n, ho, hc, hn, hd⟩, hz⟩ := I.list hs
    dsimp only at hc hd
    subst hc hd
    obtain ⟨as, ra⟩ := Dp.readsAll I ds _ its ha rv
    have em := SeqAt.readsAll_map ds its as lay ra
    refine call_meets PySem.F.slot_list_count ⟨_, ho, rfl⟩ PySem.F.entry_list_count (PySem.F.args_list_count_2 _ _)
      (SeqAt.list_countAt p its.toArray n dd sls uy fun u => PyData.eqv (SeqAt.readOf s.heap u) d) ⟨ho, ?_, ?_⟩
    · exact SeqAt.items_eqAt (vs := its.toArray) (show ReadsAll s.heap its.toArray.toList ds as from ra) rb lay (SeqAt.canLay_of_shaped sd) room
    · have ec : its.toArray.toList.countP (fun u => PyData.eqv (SeqAt.readOf s.heap u) d) = ds.countP fun z => PyData.eqv z d := by
        show its.countP _ = _
        rw [← em, List.countP_map]
        rfl
      refine ⟨.int _, H, I.tok _, ⟨s.toks, ?_⟩, q⟩
      rw [ec]

/-! ### a text once or twice -/
def rMulS : R2 := fun x y H Q => ∃ (z : W) (n : Nat), x = .str (S z) ∧ y = .int n ∧ z.length ≤ 1000 ∧ (n = 1 ∨ n = 2) ∧ Q (.str (S (List.replicate n z).flatten)) H
theorem mul_S (z : W) {n : Nat} (h : n = 1 ∨ n = 2) : Txt.mul (S z) n = S (List.replicate n z).flatten := by
  apply TL.ext_tl
  rcases h with e | e
  · subst e
    simp [Txt.mul, TL.tl, S]
  · subst e
    unfold Txt.mul
    rw [if_neg (by decide)]
    cases z with
    | nil => rfl
    | cons c r =>
      rw [if_neg (by rw [S_len]; simp)]
      simp [TL.tl, S, List.replicate]
theorem op_mulS : OpR X (binaryOp .Mult) rMulS := by
  intro pins s σ H x y v u Q I rx ry h
  obtain ⟨z, n, ex, ey, hz, h1, q⟩ := h
  subst ex ey
  obtain ⟨t, rfl⟩ := rx
  obtain ⟨t', rfl⟩ := ry
  refine SB.mul ⟨?_, fun _ g => ?_, fun _ g => ?_⟩ fun t2 k => ⟨.str _, H, I.tok _, ⟨t2, ?_⟩, q⟩
  · rcases h1 with e | e <;> subst e <;> decide
  · rcases h1 with e | e
    · subst e
      simp at g
    · subst e
      rw [S_len]
      show ¬ ((z.length : Int) > (2 ^ 63 - 1) / 2)
      omega
  · rcases h1 with e | e
    · subst e
      simp at g
    · subst e
      rw [S_len]
      show Builtin.Str.tooLong (z.length * 2) = false
      unfold Builtin.Str.tooLong
      exact decide_eq_false (by rw [sizeLine_eq]; omega)
  · rw [mul_S z h1]
end
end K67

/-! K2Zip: zip of a text and a tuple. -/
namespace K67
open PySem PySem.Spec PyProof.Rows L2

/-- the text x and the tuple at b, the items in new pairs -/
def ItzST (K : PySem.W.Frag) (x : Str) (b : Addr) : It where
  go := fun i H => ∃ (ys : List V) (c : Nat) (y : V), SqT K H b ys ∧ x.cps[i]? = some c ∧ ys[i]? = some y
  yld := fun i H v H' => ∃ (T : Addr) (c : Nat) (y : V), v = .ref T ∧ H T = none ∧ H' = upd H T (.tup [.str ⟨#[c]⟩, y]) ∧ x.cps[i]? = some c ∧ ∀ ys, SqT K H b ys → ys[i]? = some y
  stop := fun i H => ∃ ys : List V, SqT K H b ys ∧ i ≤ x.cps.size ∧ i ≤ ys.length ∧ (i = x.cps.size ∨ i = ys.length)
def zFp (z TI TO i1 i2 : Addr) : List Addr := [z, TI, TO, i1, i2]
theorem zFp_mem {z TI TO i1 i2 c : Addr} (h : c ∈ zFp z TI TO i1 i2) : c = z ∨ c = TI ∨ c = TO ∨ c = i1 ∨ c = i2 := by
  simpa [zFp] using h
theorem zFp_not {z TI TO i1 i2 c : Addr} (h : c ∉ zFp z TI TO i1 i2) : c ≠ z ∧ c ≠ TI ∧ c ≠ TO ∧ c ≠ i1 ∧ c ≠ i2 := by
  simpa [zFp] using h
/-- the zip's cells at turn i -/
structure ZSt (z TI TO i1 i2 b : Addr) (x : Str) (t : Tok) (i : Nat) (h : Heap) : Prop where
  hz : IsZip h z TI TO .none
  hTI : IsTupOf2 h TI (.ref i1) (.ref i2)
  hTO : ∃ u v, IsTupOf2 h TO u v
  h1 : h.IsStrIter i1 (strIterType x) x t i
  h2 : h.IsTupleIter i2 b i
theorem turn_zipST {P : Program} {w : World} {K : PySem.W.Frag} {elts : List Expr} {kk : Nat} {tpos : Pos} {z TI TO i1 i2 b : Addr} {x : Str} {t : Tok} (A1 : ZipSep2 z TI TO i1 i2 [i1] [i2, b]) :
    Turn P w K (.Tuple elts kk tpos) (ItzST K x b) (zFp z TI TO i1 i2) z (ZSt z TI TO i1 i2 b x t) where
  mem := by simp [zFp]
  obj := fun i h st c hc => by
    obtain ⟨hz, hTI, ⟨u, v, hTO⟩, ⟨o1, e1, _, d1⟩, ⟨o2, e2, _, d2⟩⟩ := st
    rcases zFp_mem hc with q | q | q | q | q <;> subst q
    · exact ⟨_, hz, fun _ q => nomatch q⟩
    · exact ⟨_, hTI, fun _ q => nomatch q⟩
    · exact ⟨_, hTO, fun _ q => nomatch q⟩
    · exact ⟨o1, e1, fun _ q => by rw [d1] at q; cases q⟩
    · exact ⟨o2, e2, fun _ q => by rw [d2] at q; cases q⟩
  keep := fun i h h' st k => by
    obtain ⟨hz, hTI, ⟨u, v, hTO⟩, ⟨o1, e1, c1, d1⟩, h2⟩ := st
    exact ⟨k z (by simp [zFp]) _ hz, k TI (by simp [zFp]) _ hTI, ⟨u, v, k TO (by simp [zFp]) _ hTO⟩, ⟨o1, k i1 (by simp [zFp]) _ e1, c1, d1⟩, h2.at fun o q => k i2 (by simp [zFp]) o q⟩
  item := by
    intro X hP hw hK hc i pins s σ H E I hf st hg
    subst hP hw hK
    obtain ⟨hz, hTI, ⟨u0, v0, hTO⟩, h1, h2⟩ := st
    obtain ⟨ys, c, y, hq, hx, hy⟩ := hg
    obtain ⟨its, rv, p, _⟩ := I.tuple hq
    obtain ⟨uy, huy, ruy⟩ := rv.get hy
    have hh := I.ok.hd hc
    have nb : b ≠ i2 := fun e => by
      obtain ⟨o, ho, hco, n, hd⟩ := id p
      obtain ⟨o2, e2, c2, _⟩ := id h2
      rw [e, e2] at ho
      cases ho
      rw [c2] at hco
      exact absurd hco (by decide)
    have zl : z < s.heap.objs.size := Heap.lt_size hz
    have n1 : i < x.cps.size := (Array.getElem?_eq_some_iff.mp hx).1
    have n2 : i < its.toArray.size := by
      have := (List.getElem?_eq_some_iff.mp huy).1
      simpa using this
    refine wpAny_pyNext_zipD2_item A1 (Draws.text (show X.A.in1.handled = none from hh) i1 x t) (Draws.tuple (show X.A.in1.handled = none from hh) i2 b nb its.toArray) hz hTI hTO h1 ⟨h2, p⟩ n1 n2
      fun x1 x2 h' tk p1 p2 z' TO' s1' s2' hT hsz hk => ?_
    obtain ⟨c', u', hc', rfl⟩ := p1
    have ec : c' = c := Option.some.inj (hc'.symm.trans hx)
    subst ec
    have e2 : x2 = uy := Option.some.inj (p2.symm.trans (by simpa using huy))
    subst e2
    refine ⟨_, rfl, wpAny_letOwnedTupleGo_zip (s := { s with heap := h', toks := tk }) z' fun h'' z'' sb => ?_⟩
    have hT2 : h''.get? s.heap.objs.size = some { cls := .type "tuple", data := .seq #[Value.str ⟨#[c']⟩ u', x2] } := (sb.2 _ (Nat.ne_of_gt zl)).trans hT
    have new : ObjOk X.prog X.w (upd H s.heap.objs.size (.tup [.str ⟨#[c']⟩, y])) h'' s.heap.objs.size (.tup [.str ⟨#[c']⟩, y]) :=
      ⟨by show 2 ≤ sizeLine; decide, [Value.str ⟨#[c']⟩ u', x2], .cons ⟨u', rfl⟩ (.cons ruy .nil), ⟨_, hT2, rfl, _, rfl⟩⟩
    have I1 := I.turnedNew (t' := tk) (ch := zFp z TI TO i1 i2) (h' := h'') (fun d o hb q => by
      obtain ⟨m1, m2, m3, m4, m5⟩ := zFp_not hb
      exact (sb.2 d m1).trans (hk d o m1 m3 m4 m5 q)) hf (Nat.le_refl _) new
    refine ⟨.ref s.heap.objs.size, _, I1, rfl, ⟨_, c', y, rfl, I.hok.fresh (Nat.le_refl _), rfl, hx, fun l hl => by rw [I.tuple_inj hl hq]; exact hy⟩, ⟨z'', ?_, ⟨Value.str ⟨#[c']⟩ u', x2, ?_⟩, ?_, ?_⟩, fun d hd => ?_⟩
    · exact (sb.2 _ A1.TIz).trans (hk _ _ A1.TIz A1.TITO A1.TIi1 A1.TIi2 hTI)
    · exact (sb.2 _ A1.TOz).trans TO'
    · obtain ⟨o1, e1, c1, d1⟩ := s1'
      exact ⟨o1, (sb.2 _ A1.zi1.symm).trans e1, c1, d1⟩
    · exact s2'.1.at fun o q => (sb.2 _ A1.zi2.symm).trans q
    · have hlt : d < s.heap.objs.size := by
        rcases zFp_mem hd with q | q | q | q | q <;> subst q
        · exact zl
        · exact Heap.lt_size hTI
        · exact Heap.lt_size hTO
        · obtain ⟨_, e1, _⟩ := h1; exact Heap.lt_size e1
        · obtain ⟨_, e2, _⟩ := h2; exact Heap.lt_size e2
      rw [upd_ne (Nat.ne_of_lt hlt)]
      exact (hf d hd).1
  done := by
    intro X hP hw hK hc i pins s σ H E I hf st hg
    subst hP hw hK
    obtain ⟨hz, hTI, ⟨u0, v0, hTO⟩, h1, h2⟩ := st
    obtain ⟨ys, hq, l1, l2, hend⟩ := hg
    obtain ⟨its, rv, p, _⟩ := I.tuple hq
    have hl := rv.length
    have hh := I.ok.hd hc
    have nb : b ≠ i2 := fun e => by
      obtain ⟨o, ho, hco, n, hd⟩ := id p
      obtain ⟨o2, e2, c2, _⟩ := id h2
      rw [e, e2] at ho
      cases ho
      rw [c2] at hco
      exact absurd hco (by decide)
    refine wpAny_pyNext_zipD2_end A1 (Draws.text (show X.A.in1.handled = none from hh) i1 x t) (Draws.tuple (show X.A.in1.handled = none from hh) i2 b nb its.toArray) hz hTI hTO h1 ⟨h2, p⟩ l1 (by simp; omega) (by simp; omega)
      fun h' tk hk => ⟨rfl, I.turnedL (t' := tk) (ch := zFp z TI TO i1 i2) (fun d o hb q => ?_) hf⟩
    obtain ⟨m1, m2, m3, m4, m5⟩ := zFp_not hb
    exact hk d o m1 m3 m4 m5 q
  self := fun A i s Q E st h => wpAny_pyIter_zip st.hz h
theorem zne {a b : Nat} (h : a ≠ b) : (a : Addr) ≠ (b : Addr) := h
theorem znot {c : Nat} {l : List Nat} (h : ∀ x ∈ l, c ≠ x) : (c : Addr) ∉ (l : List Addr) := fun q => h c q rfl
theorem zsep (I b : Nat) (h : b < I) : ZipSep2 (I + 4) (I + 2) (I + 3) I (I + 1) [I] [I + 1, b] where
  TIz := zne (by omega)
  TOz := zne (by omega)
  TITO := zne (by omega)
  TIi1 := zne (by omega)
  mem1 := List.mem_cons_self
  zf1 := znot fun x q => by simp at q; omega
  Tf1 := znot fun x q => by simp at q; omega
  TIi2 := zne (by omega)
  mem2 := List.mem_cons_self
  zf2 := znot fun x q => by simp at q; omega
  Tf2 := znot fun x q => by simp at q; omega
  sep1_2 := znot fun x q => by simp at q; omega
  sep2_1 := znot fun x q => by simp at q; omega
def iZipST (K : PySem.W.Frag) (ta : TA) : TI := fun σ H R => ta σ H fun vs H1 => ∃ (x : Str) (b : Addr) (ys : List V), vs = [.str x, .ref b] ∧ SqT K H1 b ys ∧ R (ItzST K x b) H1
theorem pi_zipST {X : Cx} {e e2 : Expr} {ta : TA} {p pos tpos : Pos} {elts : List Expr} {kk : Nat} (hg : Gl X "zip") (hm : X.mg "zip" = none) (ha : PA X [e, e2] ta)
    (hs : starEach [e, e2] X.env = (false, eval e X.env) :: starEach [e2] X.env := by rfl) (hpl : (backTo pos (starEach [e2] X.env)).any (·.1) = false := by rfl) :
    PI X (.Tuple elts kk tpos) (.Call (.Name "zip" p) [e, e2] [] pos) (iZipST X.K ta) := by
  refine ⟨fun pins s σ H R I h => ?_⟩
  refine Call_ (ld_blt I hg hm PyProof.Rows.boot_zip (PyProof.Rows.callWith_type1 (thn (ha.run pos pins s σ H _ I h) fun us s1 ⟨vs, H1, I1, r1, q1⟩ => ?_) hs hpl))
  obtain ⟨x, b, ys, ev, hq, q⟩ := q1
  subst ev
  obtain ⟨u1, u2, rfl, r2, r3⟩ := r1.two
  obtain ⟨t, rfl⟩ := r2
  cases r3
  obtain ⟨its, rv, p2, _⟩ := I1.tuple hq
  have lb : b < s1.heap.objs.size := p2.lt
  refine zip_begins2 (begins_text x t) (begins_tuple b its.toArray) True.intro p2 fun h' hz hTI hTO g1 g2 hsz hk => wpAny_pyIter_zip hz ?_
  have I2 : Inv X pins σ H1 { s1 with heap := h' } := I1.kept (t' := s1.toks) hk
  refine ⟨s1.heap.objs.size + 4, zFp (s1.heap.objs.size + 4) (s1.heap.objs.size + 2) (s1.heap.objs.size + 3) s1.heap.objs.size (s1.heap.objs.size + 1), _, _, H1, rfl, I2, turn_zipST (t := t) ?_, ⟨hz, hTI, ⟨_, _, hTO⟩, ⟨_, g1, rfl, rfl⟩, ⟨_, g2, rfl, rfl⟩⟩, fun c hc => ?_, q⟩
  · exact zsep _ _ lb
  · have hle : s1.heap.objs.size ≤ c := by
      rcases zFp_mem hc with q | q | q | q | q <;> subst q <;> omega
    exact I1.fpOk hle (I1.hok.fresh hle)
/-- a for over it -/
theorem walk_zipST {K : PySem.W.Frag} {x : Str} {b : Addr} {ys : List V} {n : Nat} (hn : n = min x.cps.size ys.length) :
    Walk (ItzST K x b) n (fun H => SqT K H b ys) (fun i H v H' => ∃ (T : Addr) (c : Nat) (y : V), v = .ref T ∧ H T = none ∧ H' = upd H T (.tup [.str ⟨#[c]⟩, y]) ∧ x.cps[i]? = some c ∧ ys[i]? = some y) := by
  subst hn
  refine ⟨fun i H hi q => ?_, fun H q => ⟨ys, q, by omega, by omega, by omega⟩, fun i H v H' _ q y => ?_⟩
  · have h1 : i < x.cps.size := by omega
    have h2 : i < ys.length := by omega
    exact ⟨ys, x.cps[i], ys[i], q, by simp [h1], by simp [h2]⟩
  · obtain ⟨T, c, z, e1, e2, e3, e4, e5⟩ := y
    exact ⟨T, c, z, e1, e2, e3, e4, e5 ys q⟩
end K67

/-! K2Comp: {k: v for target in iter}, its keys places. -/
namespace K67
open PySem PySem.Spec PyProof.Rows L2

/-- one store of a dict comprehension -/
theorem dn_store {X : Cx} {pins : List (Addr × Obj)} {σ : L2.St} {H : Hp} {s : Shared} {E : Value → Shared → Prop} {D : Addr} {y z : V} {u r : Value} {N : Hp → Prop} {Q : Unit → Shared → Prop} (hu : X.A.units + 20 < cLine)
    (I : Inv X pins σ H s) (ry : RelV y u) (rz : RelV z r) (h : rSetN X.prog X.w (.ref D) y z H N) (k : ∀ s' H', Inv X pins σ H' s' → N H' → Q () s') : wpAny (model X.prog X.w) X.A (dictSet D u r) Q E s := by
  obtain ⟨a, b, kvs, p, ea, eb, hd, hk, dy, hl, q⟩ := h
  cases ea
  subst eb
  cases ry
  obtain ⟨z1, z2, xs, rel, dd⟩ := dn_of I hd hk
  have hz : xs.length ≤ sizeLine := by rw [← Paired.length rel]; exact z2
  refine wpAny_dictSet_heap (hsz := hz) (show X.A.units + 8 < cLine by omega) (plK_is I.hok dy) dd fun h' dd' hs => ?_
  have hl2 : (putP kvs p b z).length ≤ sizeLine := by have := putP_len kvs p b z; omega
  have he : ∃ q, h'.get? D = some q := let ⟨q, _, _, hq, _⟩ := dd'; ⟨q, hq⟩
  exact k _ _ (d_write I (by rw [hd]; exact True.intro) hs he (dn_ok hl2 z1 (relP_put rel p b rz) dd')) q

/-- one turn of the block -/
def dcTurn (P : Program) (w : World) (g : TG) (tk tv : TE) (vs : List Nat) (σ : L2.St) (D : Addr) (Nx : Hp → Prop) (x : V) (H : Hp) : Prop :=
  g x (wipe σ vs) H fun σ2 H2 => wipe σ2 vs = wipe σ vs ∧ tk σ2 H2 fun y H3 => tv σ2 H3 fun z H4 => rSetN P w (.ref D) y z H4 Nx
/-- the new dict at D; W by the turn and a measure -/
def tDcN (P : Program) (w : World) (wi : TI) (g : TG) (tk tv : TE) (vs : List Nat) : TE := fun σ H Q => wi σ H fun J H1 => ∀ D, H1 D = none →
  ∃ W : Nat → Nat → Hp → Prop, (∃ m, W 0 m (upd H1 D (DN P w D []))) ∧ ∀ i m H, W i m H → (J.stop i H ∧ Q (.ref D) H) ∨
    (J.go i H ∧ ∃ Nx : Hp → Prop, (∀ H', Nx H' → ∃ m', m' < m ∧ W (i + 1) m' H') ∧ ∀ x H', J.yld i H x H' → dcTurn P w g tk tv vs σ D Nx x H')

section
variable {X : Cx}
abbrev Blk (X : Cx) (scope : Scope) (P : Cx → Prop) : Prop := ∀ (s : Shared) (H : Hp) (C : Addr) (cl : List (Str × Addr)) (fp : List Addr), P (X.blk s H scope (compEnvC scope cl C X.env) fp)
theorem pe_dcN {kx vx tg iter : Expr} {scope : Scope} {own : List (Str × Nat)} {pos : Pos} {wi : TI} {g : TG} {tk tv : TE} (hu : X.A.units + 20 < cLine) (hc : X.calm = true) (hN : X.N.Nodup) (hi : PI X tg iter wi) (ok : BlkOk X.N X.env.scope scope own)
    (hg : Blk X scope fun Y => PG Y tg g) (hk : Blk X scope fun Y => PE Y kx tk) (hv : Blk X scope fun Y => PE Y vx tv) (hs : ∀ x, foldedSetIterable iter X.env x = pure x := by intro _; rfl) :
    PE X (.DictComp kx vx [⟨tg, iter, [], 0⟩] scope pos) (tDcN X.prog X.w wi g tk tv (own.map (·.2))) := by
  refine ⟨fun pins s σ H Q I h => ?_⟩
  rw [arm_eval_DictComp]
  have cl : ∀ y ∈ scope.names, y.2 = .free → ∃ c, X.env.cells.lookup y.1 = some c := fun y hy e => I.ok.has _ (ok.free y hy e)
  refine wpAny_comprehension_free (use := none) rfl hs (closure_ok cl) ok.kind (fun y hy e => by rw [ok.uniq y hy, e]) (thn (hi.run pins s σ H _ I h) fun xv s1 hx => thn hx fun itv s2 h2 => ?_)
  obtain ⟨it, fp, tn, J, H2, ei, I2, T, st2, f2, q⟩ := h2
  subst ei
  refine wpAny_newObj_type (newEnv_comp ?_)
  -- the new dict
  have hDn : H2 s2.heap.objs.size = none := I2.hok.fresh (Nat.le_refl _)
  obtain ⟨W, ⟨m0, w0⟩, turn⟩ := q _ hDn
  generalize eD : s2.heap.objs.size = D at hDn w0 turn
  obtain ⟨s3, e3⟩ : ∃ s3 : Shared, s3 = { s2 with heap := s2.heap.push { cls := .type "dict", data := .dict #[] } } := ⟨_, rfl⟩
  obtain ⟨H3, eH⟩ : ∃ H3 : Hp, H3 = upd H2 D (DN X.prog X.w D []) := ⟨_, rfl⟩
  have I3 : Inv X pins σ H3 s3 := by
    subst e3 eH eD
    exact I2.laid (t' := s2.toks) (fun b o e => Heap.get?_push_of_some _ e) (Nat.le_refl _) (dn_empty s2.heap I2.big)
  have up3 : ∀ b o, s2.heap.get? b = some o → s3.heap.get? b = some o := fun b o e => by rw [e3]; exact Heap.get?_push_of_some _ e
  have f3 : ∀ b ∈ fp, FpOk X pins H3 b ∧ b < s3.heap.objs.size := fun b hb => by
    obtain ⟨o, eo, _⟩ := T.obj _ _ st2 b hb
    have lt := Heap.lt_size eo
    refine ⟨⟨?_, (f2 b hb).2⟩, Heap.lt_size (up3 b o eo)⟩
    rw [eH, upd_ne (by rw [← eD]; exact Nat.ne_of_lt lt)]
    exact (f2 b hb).1
  rw [← eH] at w0
  -- the block begins
  have I4 := block_start I3 ok hN f3
  obtain ⟨ce, ece⟩ : ∃ ce, ce = compEnvC scope (cellsFrom (s3.heap.objs.size + 1) scope.names (cloFrom X.env.cells scope.names [])) s3.heap.objs.size X.env := ⟨_, rfl⟩
  obtain ⟨s4, e4⟩ : ∃ s4 : Shared, s4 = { s3 with heap := pushCells (s3.heap.push { cls := .type "dict", data := .dict #[] }) scope.names } := ⟨_, rfl⟩
  have pg := hg s3 H3 s3.heap.objs.size (cellsFrom (s3.heap.objs.size + 1) scope.names (cloFrom X.env.cells scope.names [])) fp
  have pk := hk s3 H3 s3.heap.objs.size (cellsFrom (s3.heap.objs.size + 1) scope.names (cloFrom X.env.cells scope.names [])) fp
  have pv := hv s3 H3 s3.heap.objs.size (cellsFrom (s3.heap.objs.size + 1) scope.names (cloFrom X.env.cells scope.names [])) fp
  rw [← ece] at I4 pg pk pv
  rw [← e4] at I4
  have cL : ce.locals = s3.heap.objs.size := by rw [ece]; rfl
  have st4 : tn 0 s4.heap := T.keep _ _ _ st2 fun b _ o e => by rw [e4]; exact pushCells_keeps _ _ _ _ (Heap.get?_push_of_some _ (up3 b o e))
  have n4 : ∀ b ∈ fp, H3 b = none := fun b hb => (f3 b hb).1.1
  obtain ⟨Y, eY⟩ : ∃ Y, Y = X.blk s3 H3 scope ce fp := ⟨_, rfl⟩
  rw [← eY] at I4 pg pk pv
  have stat : ∀ {σ' : L2.St} {H' : Hp} {s' : Shared}, Inv Y [] σ' H' s' → (∀ b ∈ fp, H' b = none) → ∀ b ∈ fp, FpOk Y [] H' b := fun {σ' H' s'} I' hn b hb => by
    subst eY
    exact ⟨hn b hb, (I'.ok.exf b hb).1, I'.ok.exfs b hb, .inl hb, fun x c e => (I'.ok.exf b hb).2 x c e, fun p hp => by cases hp⟩
  have goal : codeAny (model X.prog X.w) X.A (.compLoop (.DictComp kx vx [⟨tg, iter, [], 0⟩] scope pos) 0 (.ref it) (.ref D) ce) (compPost (model X.prog X.w) X.A X.xe none (EP X pins σ Q) (.ref D) s3.heap.objs.size) s4 := by
    refine compLoop_anyD (fun n s' => ∃ i H', Inv Y [] (wipe σ (own.map (·.2))) H' s' ∧ tn i s'.heap ∧ (∀ b ∈ fp, H' b = none) ∧ W i n H') ?_ m0 ⟨0, H3, I4, st4, n4, w0⟩
    rintro n s5 ⟨i, H5, I5, st5, n5, w5⟩
    have cY : Y.calm = true := by rw [eY]; exact hc
    rcases turn i n H5 w5 with ⟨stop, qq⟩ | ⟨go, Nx, hNx, step⟩
    · have td := T.done Y (by rw [eY]) (by rw [eY]) (by rw [eY]) cY i [] s5 _ H5 (fun _ _ => False) I5 (stat I5 n5) st5 stop
      rw [eY] at td
      refine thnF td fun r s6 ⟨hr, I6⟩ => ?_
      subst hr
      have I7 : Inv X pins σ H5 s6 := I3.call' (ch := fp) I6.os I6.base I6.hok I6.bare fun b hb => let z := (f3 b hb).1; ⟨z.2.2.2.1, z.2.1, z.2.2.2.2.1, z.2.2.2.2.2⟩
      have nC : H5 s3.heap.objs.size = none := by
        have z : H5 ce.locals = none := I6.free
        rw [cL] at z
        exact z
      obtain ⟨m, hn, _⟩ := I6.loc
      have hn' : s6.heap.Ns ce.locals m := hn
      rw [cL] at hn'
      refine ⟨m, hn', fun h'' sb => ?_⟩
      obtain ⟨f0, f1, f2', f3', f4, f5⟩ := I3.fpOk (Nat.le_refl _) nC
      exact ⟨.ref D, H5, I7.turned (t' := s6.toks) (fun b o hb e => (sb.2 b hb).trans e) f0 f1 f3' f4 f5, rfl, qq⟩
    · have ti := T.item Y (by rw [eY]) (by rw [eY]) (by rw [eY]) cY i [] s5 _ H5 (fun _ _ => False) I5 (stat I5 n5) st5 go
      have eA : Y.A = X.A := by rw [eY]
      have eP : Y.prog = X.prog := by rw [eY]
      have ew : Y.w = X.w := by rw [eY]
      have eE : Y.env = ce := by rw [eY]
      rw [eA] at ti
      refine thnF ti fun r s6 ⟨u, hr, h6⟩ => ?_
      subst hr
      refine thnF h6 fun _ s7 ⟨x, H7, I7, r7, y7, st7, n7⟩ => ?_
      have I7' := I7.pinned (stat I7 n7) (T.obj _ _ st7)
      have go1 := pg.run _ s7 _ H7 x u _ I7' r7 (step x H7 y7)
      rw [eA, eP, ew, eE] at go1
      have xe : Y.xe = fun _ _ => False := by rw [eY]
      rw [xe] at go1
      refine thnF go1 fun _ s8 ⟨σ8, H8, I8, hw8, q8⟩ => ?_
      rw [List.forIn_nil]
      refine wpAny_pure ?_
      have go2 := pk.run _ s8 σ8 H8 _ I8 q8
      rw [eA, eP, ew, eE, xe] at go2
      refine thnF go2 fun y' s9 ⟨yk, H9, I9, r9, q9⟩ => ?_
      have go3 := pv.run _ s9 σ8 H9 _ I9 q9
      rw [eA, eP, ew, eE, xe] at go3
      refine thnF go3 fun z' s10 ⟨zv, H10, I10, r10, q10⟩ => ?_
      have stt := dn_store (X := Y) (E := fun _ _ => False) (Q := fun _ s12 => ∃ m, m < n ∧ ∃ i H', Inv Y [] (wipe σ (own.map (·.2))) H' s12 ∧ tn i s12.heap ∧ (∀ b ∈ fp, H' b = none) ∧ W i m H') (by rw [eA]; exact hu) I10 r9 r10 (by rw [eP, ew]; exact q10) fun s12 H12 I12 nx => by
        obtain ⟨m', hm, w'⟩ := hNx H12 nx
        have pin' : ∀ b ∈ fp, ∀ o, s7.heap.get? b = some o → s12.heap.get? b = some o ∧ H12 b = none := fun b hb o e =>
          let z := I12.pin (b, o) (List.mem_append_right _ (List.mem_append_right _ (mem_pinsAt hb e)))
          ⟨z.1, z.2.1⟩
        have hl : (wipe σ (own.map (·.2))).length = σ8.length := by rw [← hw8, wipe_length]
        refine ⟨m', hm, i + 1, H12, (I12.unpinned (pins := [])).weak hl (fun j v e => ?_), T.keep _ _ _ st7 fun b hb o e => (pin' b hb o e).1, fun b hb => ?_, w'⟩
        · rw [← hw8] at e
          exact (wipe_some e).1
        · obtain ⟨o, e, _⟩ := T.obj _ _ st7 b hb
          exact (pin' b hb o e).2
      rw [eA, eP, ew] at stt
      exact thnF stt fun _ _ z => z
  have fin := codeAny_compStart_dict goal (T.self X.A 0 _ _ _ st4 goal)
  rw [ece, e4, e3] at fin
  exact fin
/-- over a list that stays -/
theorem dcN_list {P : Program} {w : World} {K : PySem.W.Frag} {a : Addr} {xs : List V} {g : TG} {tk tv : TE} {vs : List Nat} {σ : L2.St} {H1 : Hp} {D : Addr} {Qd : Hp → Prop} (Pv : Nat → Hp → Prop) (h0 : Pv 0 (upd H1 D (DN P w D []))) (hl : ∀ i H, Pv i H → SqL K H a xs)
    (hs : ∀ i x H, xs[i]? = some x → Pv i H → dcTurn P w g tk tv vs σ D (Pv (i + 1)) x H) (hd : ∀ H, Pv xs.length H → Qd H) :
    ∃ W : Nat → Nat → Hp → Prop, (∃ m, W 0 m (upd H1 D (DN P w D []))) ∧ ∀ i m H, W i m H → ((Itl K a).stop i H ∧ Qd H) ∨
      ((Itl K a).go i H ∧ ∃ Nx : Hp → Prop, (∀ H', Nx H' → ∃ m', m' < m ∧ W (i + 1) m' H') ∧ ∀ x H', (Itl K a).yld i H x H' → dcTurn P w g tk tv vs σ D Nx x H') := by
  refine ⟨fun i m H => m = xs.length - i ∧ i ≤ xs.length ∧ Pv i H, ⟨_, rfl, Nat.zero_le _, h0⟩, fun i m H ⟨em, hi, p⟩ => ?_⟩
  have q := hl i H p
  rcases Nat.lt_or_ge i xs.length with lt | ge
  · refine .inr ⟨⟨xs, xs[i], q, by simp [lt]⟩, Pv (i + 1), fun H' p' => ⟨xs.length - (i + 1), by omega, rfl, lt, p'⟩, fun x H' y => ?_⟩
    obtain ⟨rfl, y⟩ := y
    exact hs i x _ (y xs q) p
  · have e : i = xs.length := by omega
    subst e
    exact .inl ⟨⟨xs, q, Nat.le_refl _⟩, hd H p⟩
end
end K67

/-! K2Sort: sorted([x, y], key=f), f a def of the text whose key is a pair of a number and a text. -/
namespace K67
open PySem PySem.Spec PyProof.Rows L2

def keyD (x : W) : PyData := .tuple [.int x.length, sD x]
/-- what a key's def promises -/
def spKey : Sp := fun vs H Q _ => ∃ x : W, vs = [.str (S x)] ∧ x.length ≤ 100000 ∧ RetV (keyD x) H Q

section
variable {X : Cx} {pins : List (Addr × Obj)} {σ : L2.St} {H : Hp} {s : Shared}
/-- the state while the keys are made: both lists of the sort stand, tracked by nobody -/
structure SSt (X : Cx) (pins : List (Addr × Obj)) (σ : L2.St) (H : Hp) (s : Shared) (a kS : Addr) (e1 : Nat) (ks : List W) (H' : Hp) (s' : Shared) : Prop where
  inv : Inv X pins σ H' s'
  same : Same H H'
  un : Un (frs X.stack) [] H H' s.heap s'.heap
  na : H' a = none
  nk : H' kS = none
  at_ : s'.heap.get? a = some (seqObj "list" #[] e1)
  ks_ : ∃ (us : List Value) (vs : List V) (e : Nat), s'.heap.get? kS = some (seqObj "list" us.toArray e) ∧ Vals vs us ∧ Dats H' vs (ks.map keyD)
/-- behind a key's call -/
def KBack (X : Cx) (pins : List (Addr × Obj)) (σ : L2.St) (H : Hp) (s : Shared) (a kS : Addr) (e1 : Nat) (ks : List W) (x : W) (u : Value) (s2 : Shared) : Prop :=
  ∃ (v : V) (H2 : Hp) (us : List Value) (vs : List V) (e : Nat), Inv X pins σ H2 s2 ∧ Same H H2 ∧ Un (frs X.stack) [] H H2 s.heap s2.heap ∧ H2 a = none ∧ H2 kS = none ∧ s2.heap.get? a = some (seqObj "list" #[] e1) ∧ s2.heap.get? kS = some (seqObj "list" us.toArray e) ∧ Vals vs us ∧ Dats H2 vs (ks.map keyD) ∧ RelV v u ∧ Dat H2 v (keyD x)
theorem key_call {f : Addr} {fd : FuncData} {a kS : Addr} {e1 : Nat} {ks : List W} {H' : Hp} {s' : Shared} {x : W} {t : Tok} (F : FnOk X.prog X.w X.K X.mg X.base CX0 1 f fd ["word"] spKey) (hr : Room 3 X.A) (hb : Binds X.K fd ["word"] [])
    (fA : ∀ H1 : Hp, H1 a = none → FpOk X pins H1 a) (fK : ∀ H1 : Hp, H1 kS = none → FpOk X pins H1 kS) (hx : x.length ≤ 100000) (I : SSt X pins σ H s a kS e1 ks H' s') :
    wpAny (model X.prog X.w) X.A.in1.in1 (call (.ref f) [.str (S x) t]) (KBack X pins σ H s a kS e1 ks x) (fun _ _ => False) s' := by
  obtain ⟨I1, sm, un0, na, nk, hat, us, vs, e, hks, rv, dv⟩ := I
  have nfs : ∀ {b : Addr}, FpOk X pins H' b → b ∉ frs X.stack := fun {b} fp hbm => by
    rcases List.mem_cons.mp (I1.stkSub b hbm) with q | q
    · exact fp.2.1 q
    · exact fp.2.2.1 q
  refine wpAny_call (codeAny_mono (F.run X.A.in1.in1 X.stack s' H' ⟨[.str (S x) t], []⟩ [.str (S x) t] [.str (S x)] (fun v H2 => Same H' H2 ∧ Dat H2 v (keyD x)) E0 hr.in1.in1 I1.env0.in1.in1 (hb s' _ I1.kIn rfl) (.cons ⟨t, rfl⟩ .nil) ⟨x, rfl, hx, fun v H2 sm d => ⟨sm, d⟩⟩) fun r s2 hq => ?_)
  cases r with
  | error er => exact hq.elim
  | ok fl =>
    cases fl with
    | ret u =>
      obtain ⟨v, H2, ho, hg, un, hok, r, sm2, d2⟩ := hq
      exact ⟨v, H2, us, vs, e, I1.call' ho un hok hg (fun b z => by cases z), sm.trans sm2, un0.trans un, un.free a _ hat na (by simp), un.free kS _ hks nk (by simp), un.keep a _ hat na (nfs (fA _ na)) (by simp), un.keep kS _ hks nk (nfs (fK _ nk)) (by simp), rv, dv.same sm2, r, d2⟩
    | next => exact hq.elim
    | brk => exact hq.elim
    | cont => exact hq.elim
theorem un_past {ex : List Addr} {H1 H2 : Hp} {g g' : Heap} {fs : List Addr} (un : Un fs ex H1 H2 s.heap g) {kS : Addr} (hk : s.heap.objs.size ≤ kS) (sb : ∀ b o, b ≠ kS → g.get? b = some o → g'.get? b = some o) : Un fs ex H1 H2 s.heap g' where
  keep := fun b o q n hb hx => sb b o (Nat.ne_of_lt (Nat.lt_of_lt_of_le (Heap.lt_size q) hk)) (un.keep b o q n hb hx)
  slot := fun b o q n hb hx => by
    obtain ⟨sl, e⟩ := un.slot b o q n hb hx
    exact ⟨sl, sb b _ (Nat.ne_of_lt (Nat.lt_of_lt_of_le (Heap.lt_size q) hk)) e⟩
  free := un.free
  there := fun b o q hx => by
    obtain ⟨o', e⟩ := un.there b o q hx
    exact ⟨o', sb b _ (Nat.ne_of_lt (Nat.lt_of_lt_of_le (Heap.lt_size q) hk)) e⟩
  tups := un.tups
  frzs := un.frzs
  tbls := un.tbls
theorem key_push {a kS : Addr} {e1 : Nat} {ks : List W} {x : W} {u : Value} {s2 : Shared} {M : Model} {A : Around} {E : Value → Shared → Prop} {Q : Unit → Shared → Prop} (fK : ∀ H1 : Hp, H1 kS = none → FpOk X pins H1 kS) (hne : kS ≠ a) (hbig : s.heap.objs.size ≤ kS) (hl : ks.length ≤ 10) (h : KBack X pins σ H s a kS e1 ks x u s2)
    (k : ∀ H2 s3, SSt X pins σ H s a kS e1 (ks ++ [x]) H2 s3 → Q () s3) : wpAny M A (Builtin.List.listUpdate (.ref kS) (·.push u)) Q E s2 := by
  obtain ⟨v, H2, us, vs, e, I2, sm, un0, na2, nk2, hat2, hks2, rv, dv, rvu, d2⟩ := h
  have lu : us.length = ks.length := by rw [← rv.length, dv.length, List.length_map]
  refine listUpdate_at hks2 rfl ?_ (by rw [List.size_toArray, sizeLine_eq]; omega) (by rw [Array.size_push, List.size_toArray, sizeLine_eq]; omega)
  have sb := Heap.SameBut.update s2.heap kS (Obj.mapSeq (·.push u))
  obtain ⟨c2, hc2⟩ : ∃ c2, (s2.heap.update kS (Obj.mapSeq (·.push u))).get? kS = some (seqObj "list" (us.toArray.push u) c2) := ⟨_, get?_update_seq hks2 (·.push u)⟩
  obtain ⟨f0, f1, f2, f3, f4, f5⟩ := fK _ nk2
  refine k H2 _ ⟨I2.turned (t' := s2.toks) (fun b o hb e => (sb.2 b hb).trans e) f0 f1 f3 f4 f5, sm, un_past un0 hbig (fun b o hb e => (sb.2 b hb).trans e), na2, nk2, (sb.2 a hne.symm).trans hat2, us ++ [u], vs ++ [v], c2, ?_, rv.append (.cons rvu .nil), ?_⟩
  · rw [hc2]
    simp
  · rw [List.map_append]
    exact dv.app (.cons d2 .nil)

/-- two texts in some order -/
theorem sort_two {f : Addr} {fd : FuncData} {l : Addr} {x y : W} {Q : VK} (F : FnOk X.prog X.w X.K X.mg X.base CX0 1 f fd ["word"] spKey) (hroom : Room 3 X.A) (hb : Binds X.K fd ["word"] []) (I : Inv X pins σ H s) (hl : SqL X.K H l [.str (S x), .str (S y)]) (hx : x.length ≤ 100000) (hy : y.length ≤ 100000)
    (k : ∀ p H' a b, Same H H' → H p = none → (([a, b] : List W).Perm [x, y]) → H' p = some (.lst [.str (S a), .str (S b)]) → Q (.ref p) H') :
    wpAny (model X.prog X.w) X.A (call (.builtin "sorted") [.ref l] [(Str.ofString "key", .ref f)]) (EP X pins σ Q) X.xe s := by
  obtain ⟨its, rv, pl, _⟩ := I.list hl
  obtain ⟨u1, u2, rfl, ⟨t1, rfl⟩, ⟨t2, rfl⟩⟩ := rv.two
  refine PySem.W.sorted_of_sort pl.isList (by show 2 ≤ sizeLine; decide) (ksk_s1 _ _) (fun _ => ksk_l1 _ _) fun E' => ?_
  rw [ksk_t1]
  obtain ⟨vs, evs⟩ : ∃ vs : List Value, vs = [.str (S x) t1, .str (S y) t2] := ⟨_, rfl⟩
  rw [← evs]
  have lvs : vs.length = 2 := by rw [evs]; rfl
  have ho := PySem.W.copyHeap_at s.heap vs
  obtain ⟨g, eg⟩ : ∃ g, g = PySem.W.copyHeap s.heap vs := ⟨_, rfl⟩
  have up1 : ∀ b o, s.heap.get? b = some o → g.get? b = some o := fun b o e => by rw [eg]; exact PySem.W.copyHeap_old e
  rw [← eg] at ho ⊢
  obtain ⟨a, ea⟩ : ∃ a : Addr, a = s.heap.objs.size + 1 := ⟨_, rfl⟩
  rw [← ea] at ho ⊢
  have hla : a < g.objs.size := Heap.lt_size ho
  obtain ⟨e1, ho1⟩ : ∃ e1, (g.update a (Obj.mapSeq fun _ => (#[] : Array Value))).get? a = some (seqObj "list" #[] e1) := ⟨_, get?_update_seq ho fun _ => #[]⟩
  have z2 : vs.length ≤ sizeLine := by rw [lvs]; decide
  unfold ksk_tree
  refine wpAny_bind (listItems_at ho rfl ?_)
  refine wpAny_bind (listUpdate_at ho rfl ?_ (by rw [List.size_toArray]; exact z2) (Nat.zero_le _))
  refine wpAny_bind (seqEpoch_at ho1 rfl ?_)
  refine wpAny_bind (wpAny_newTuple ?_ (by show vs.length ≤ _; exact z2))
  refine wpAny_bind (wpAny_newList ?_ (Nat.zero_le _))
  refine wpAny_holding ?_
  obtain ⟨g2, eg2⟩ : ∃ g2, g2 = (g.update a (Obj.mapSeq fun _ => (#[] : Array Value))).push (seqObj "tuple" vs.toArray 0) := ⟨_, rfl⟩
  obtain ⟨kS, ekS⟩ : ∃ kS : Addr, kS = g2.objs.size := ⟨_, rfl⟩
  have sz2 : g2.objs.size = g.objs.size + 1 := by rw [eg2, size_push', Heap.size_update]
  have up2 : ∀ b o, b ≠ a → g.get? b = some o → g2.get? b = some o := fun b o hb e => by
    rw [eg2]
    exact Heap.get?_push_of_some _ (((Heap.SameBut.update g a _).2 b hb).trans e)
  have hne : kS ≠ a := by rw [ekS, sz2]; exact Nat.ne_of_gt (Nat.lt_succ_of_lt hla)
  have lold : ∀ b o, s.heap.get? b = some o → b ≠ a := fun b o e => by rw [ea]; exact Nat.ne_of_lt (Nat.lt_succ_of_lt (Heap.lt_size e))
  have na : H a = none := I.hok.fresh (by rw [ea]; exact Nat.le_succ _)
  have sg : s.heap.objs.size ≤ g.objs.size := by
    have : s.heap.objs.size + 1 < g.objs.size := by rw [← ea]; exact hla
    omega
  have nk : H kS = none := I.hok.fresh (by rw [ekS, sz2]; omega)
  have hbig : s.heap.objs.size ≤ kS := by rw [ekS, sz2]; omega
  have fA : ∀ H1 : Hp, H1 a = none → FpOk X pins H1 a := fun H1 h => I.fpOk (by rw [ea]; exact Nat.le_succ _) h
  have fK : ∀ H1 : Hp, H1 kS = none → FpOk X pins H1 kS := fun H1 h => I.fpOk (by rw [ekS, sz2]; omega) h
  have st0 : SSt X pins σ H s a kS e1 [] H { s with heap := g2.push (seqObj "list" #[] 0) } :=
    ⟨I.kept (t' := s.toks) fun b o e => Heap.get?_push_of_some _ (up2 b o (lold b o e) (up1 b o e)), Same.refl H, Un.kept fun b o e => Heap.get?_push_of_some _ (up2 b o (lold b o e) (up1 b o e)), na, nk, Heap.get?_push_of_some _ (by rw [eg2]; exact Heap.get?_push_of_some _ ho1), [], [], 0, by rw [ekS]; exact Heap.get?_push_size _ rfl, .nil, .nil⟩
  rw [← eg2, ← ekS]
  unfold ksk_rest
  refine wpAny_bind (wpAny_rule ?_)
  rw [List.forIn_toArray]
  refine wpAny_bind (ksk_fold (fun i s' => ∃ H', SSt X pins σ H s a kS e1 ([x, y].take i) H' s') vs 0 _ ⟨H, st0⟩ (fun j z s' hz hI => ?_) fun s' hI => ?_)
  · obtain ⟨H', hI⟩ := hI
    rw [Nat.zero_add] at hI ⊢
    have hj : j = 0 ∨ j = 1 := by
      have := (List.getElem?_eq_some_iff.mp hz).1
      omega
    obtain ⟨q, t, ez, eq_, lq⟩ : ∃ (q : W) (t : Tok), z = .str (S q) t ∧ [x, y].take (j + 1) = [x, y].take j ++ [q] ∧ q.length ≤ 100000 := by
      rw [evs] at hz
      rcases hj with e | e
      · subst e
        exact ⟨x, t1, (Option.some.inj hz).symm, rfl, hx⟩
      · subst e
        exact ⟨y, t2, (Option.some.inj hz).symm, rfl, hy⟩
    subst ez
    refine wpAny_bind (wpAny_attempt (wpAny_mono (key_call F hroom hb fA fK lq hI) (fun u s2 hq => ?_) fun _ _ z => z.elim))
    dsimp only
    refine wpAny_bind (key_push fK hne hbig (by rw [List.length_take]; simp; omega) hq fun H2 s3 h3 => ?_)
    exact wpAny_pure ⟨rfl, H2, by rw [eq_]; exact h3⟩
  · obtain ⟨H', I1, sm, un0, na', nk', hat, us, ws, e, hks, rvk, dv⟩ := hI
    rw [lvs] at dv
    have dv' : Dats H' ws [keyD x, keyD y] := dv
    have hr : PySem.W.EachIs (fun v d => ∃ as, Reads s'.heap v d as) us [keyD x, keyD y] := by
      obtain ⟨w1, w2, rfl, q1, q2⟩ := dv'.two_inv
      obtain ⟨k1, k2, rfl, r1, r2⟩ := rvk.two
      exact .cons (Dp.reads I1 _ _ _ (q1.dp (K := X.K)) r1) (.cons (Dp.reads I1 _ _ _ (q2.dp (K := X.K)) r2) .nil)
    have hal : PySem.W.AllAlike ([x, y].map keyD) := PySem.W.AllAlike.of fun b b' => by simp [keyD, sD, PySem.W.alike, PySem.W.alikeAll]
    have hsk : PySem.W.Sortable ([x, y].map keyD) := PySem.W.Sortable.tuples fun b => ⟨_, _, rfl⟩
    have S := PySem.W.SortsAt.data (prog := X.prog) (w := X.w) (A := X.A.in1.in1) (s := s') (vs := us.toArray.toList) (ds := [keyD x, keyD y]) (by simpa using hr) hal hsk fun d hd => by
      have hu := hroom.units
      have e : d = keyD x ∨ d = keyD y := by simpa using hd
      have hd1 : d.depth = 1 := by rcases e with e | e <;> subst e <;> simp [keyD, sD, PyData.depth, PyData.depthAll]
      rw [hd1]
      show X.A.units + 1 + 1 + 1 < cLine
      omega
    have lus : us.length = 2 := by rw [← rvk.length, dv'.length]; rfl
    refine wpAny_bind (listItems_at hks rfl ?_)
    refine PySem.W.keyH_end (h₁ := PySem.W.hideAll s'.heap [kS]) (fun b o hb e => PySem.W.of_hideAll [kS] e) (PySem.W.hideAll_none [kS] List.mem_cons_self) hks hat hne S (by rw [List.size_toArray, lus, lvs]) z2 fun h' tk c kp hD => ⟨rfl, ?_⟩
    have eo := PySem.W.sortVals_each (κ := PySem.W.dataKind s'.heap [keyD x, keyD y]) (R := fun v (b : W) => RelV (V.str (K67.S b)) v) (rev := false) (ks := us.toArray.toList) (vs := vs) (bs := [x, y]) (fun b => PySem.W.keyToks (keyD b))
      (by rw [evs]; exact .cons ⟨t1, rfl⟩ (.cons ⟨t2, rfl⟩ .nil)) (by
        have z := PySem.W.each_keys (h := s'.heap) hal (by simpa using hr)
        have z2 := PySem.W.each_of_map keyD z
        simp only [List.toList_toArray]
        exact z2)
    have hpm := List.mergeSort_perm [x, y] (PySem.W.sortLe (PySem.W.dataKind s'.heap [keyD x, keyD y]).toKeyOrd false fun b => PySem.W.keyToks (keyD b))
    generalize PySem.W.sortVals (PySem.W.dataKind s'.heap [keyD x, keyD y]) false us.toArray.toList vs = out at eo hD
    generalize List.mergeSort [x, y] (PySem.W.sortLe (PySem.W.dataKind s'.heap [keyD x, keyD y]).toKeyOrd false fun b => PySem.W.keyToks (keyD b)) = ms at eo hpm
    have lms := hpm.length_eq
    match ms, lms, eo, hpm with
    | [a', b'], _, eo, hpm =>
      cases eo with
      | cons ra eo =>
      cases eo with
      | cons rb eo =>
      cases eo
      have up : ∀ b o, b ≠ a → b ≠ kS → s'.heap.get? b = some o → h'.get? b = some o := fun b o n1 n2 e => kp b o n1 (PySem.W.hideAll_get _ e fun hm => n2 (by simpa using hm))
      have nts : ∀ {b : Addr} {o : HO}, H' b = some o → b ≠ a := fun {b o} e z => by rw [z, na'] at e; cases e
      have ntk : ∀ {b : Addr} {o : HO}, H' b = some o → b ≠ kS := fun {b o} e z => by rw [z, nk'] at e; cases e
      have nos : ∀ {b : Addr} {o : HO}, H b = some o → b ≠ a := fun {b o} e z => by rw [z, na] at e; cases e
      have lk : ∀ {b : Addr} {o : Obj}, s.heap.get? b = some o → b ≠ kS := fun {b o} e => Nat.ne_of_lt (Nat.lt_of_lt_of_le (Heap.lt_size e) hbig)
      have un1 : Un (frs X.stack) [] H (upd H' a (.lst [.str (K67.S a'), .str (K67.S b')])) s.heap h' := {
        keep := fun b o q n hb hx => up b o (lold b o q) (lk q) (un0.keep b o q n hb hx)
        slot := fun b o q n hb hx => by
          obtain ⟨sl, e⟩ := un0.slot b o q n hb hx
          exact ⟨sl, up b _ (lold b o q) (lk q) e⟩
        free := fun b o q n hx => by rw [upd_ne (lold b o q)]; exact un0.free b o q n hx
        there := fun b o q hx => by
          obtain ⟨o', e⟩ := un0.there b o q hx
          exact ⟨o', up b _ (lold b o q) (lk q) e⟩
        tups := fun b xs e => by rw [upd_ne (nos e)]; exact un0.tups b xs e
        frzs := fun b o u e => by rw [upd_ne (nos e)]; exact un0.frzs b o u e
        tbls := fun b ps e => by rw [upd_ne (nos e)]; exact un0.tbls b ps e }
      have hok : HOk X.prog X.w (upd H' a (.lst [.str (K67.S a'), .str (K67.S b')])) h' := fun b o e => by
        by_cases hb : b = a
        · subst hb
          rw [upd_same] at e
          cases e
          exact ⟨by show 2 ≤ sizeLine; decide, _, _, .cons ra (.cons rb .nil), hD⟩
        · rw [upd_ne hb] at e
          refine (I1.hok b o e).stay (fun c u hc q => up c u ?_ ?_ q) (fun c q => by rw [upd_ne (nts q)]; exact q) fun c xs q => by rw [upd_ne (nts q)]; exact q
          · rcases hc with rfl | hc
            · exact hb
            · exact nts hc
          · rcases hc with rfl | hc
            · exact ntk e
            · exact ntk hc
      have I3 : Inv X pins σ (upd H' a (.lst [.str (K67.S a'), .str (K67.S b')])) { s' with heap := h', toks := tk } := I.call' (I1.os.trans I.os.symm) un1 hok I1.bare fun b z => by cases z
      refine ⟨.ref a, _, I3, rfl, k a _ a' b' ?_ na hpm upd_same⟩
      exact sm.trans (same_new (Same.refl _) na')
/-- a text's sorted by the key of a def -/
def rSort2 : List V → List V → Hp → VK → Prop := fun vs zs H Q => ∃ (l : Addr) (x y : W), vs = [.ref l] ∧ H l = some (.lst [.str (S x), .str (S y)]) ∧ x.length ≤ 100000 ∧ y.length ≤ 100000 ∧
  ∀ p H' a b, Same H H' → H p = none → (([a, b] : List W).Perm [x, y]) → H' p = some (.lst [.str (S a), .str (S b)]) → Q (.ref p) H'
theorem call_sort2 {f : Addr} {fd : FuncData} (F : FnOk X.prog X.w X.K X.mg X.base CX0 1 f fd ["word"] spKey) (hroom : Room 3 X.A) (hb : Binds X.K fd ["word"] []) (zv : List V → Prop) (hz : ∀ zs ws, Vals zs ws → zv zs → ws = [.ref f]) :
    CallRK X (.builtin "sorted") [Str.ofString "key"] fun vs zs H Q => zv zs ∧ rSort2 vs zs H Q := by
  intro pins s σ H vs zs us ws Q I r rz h
  obtain ⟨hzv, l, x, y, rfl, hl, hx, hy, k⟩ := h
  obtain rfl := Vals.ref1 r
  obtain rfl := hz zs ws rz hzv
  exact sort_two F hroom hb I (.of hl) hx hy k
end
end K67


/-! K3Text: the text by places. Written by gen.py. -/
namespace K67
open PySem PySem.Spec PyProof.Rows L2
def top (i : Nat) : Stmt := PySem.Challenge.pw_soundturns_k67_whole_a_closed_list_or_tw.main.body.getD i (.Pass ⟨0, 0, 0, 0⟩)
abbrev FnP (K : PySem.W.Frag) (x q : Str) (st : Stmt) (f : Addr) (fd : FuncData) : Prop := FunD K x q (defArgs st) (defBody st) (defScope st) [] [] f fd
abbrev s_check_size : Stmt := top 9
abbrev s_has_letters : Stmt := top 10
abbrev s_is_word : Stmt := top 11
abbrev s_check_word : Stmt := top 12
abbrev s_key_of : Stmt := top 13
abbrev s_common : Stmt := top 14
abbrev s_is_string : Stmt := top 18
abbrev s_is_row : Stmt := top 19
abbrev s_is_formed : Stmt := top 20
abbrev s_is_wide : Stmt := top 21
abbrev s_check_wide : Stmt := top 22
abbrev s_walked : Stmt := top 23
abbrev s_changed : Stmt := top 24
abbrev s_check_call : Stmt := top 25
abbrev s_form : Stmt := top 26
abbrev s_reached_states : Stmt := top 28
abbrev s_rest_of : Stmt := top 30
abbrev s_moves : Stmt := top 34
abbrev s_is_done : Stmt := top 35
abbrev s_starting : Stmt := top 36
abbrev s_going : Stmt := top 37
abbrev s_S_init : Stmt := inClass (top 38) 0
abbrev s_S_take : Stmt := inClass (top 38) 1
abbrev s_S_look : Stmt := inClass (top 38) 2
abbrev s_starts : Stmt := top 39
abbrev s_check_place : Stmt := top 40
abbrev s_following : Stmt := top 41
abbrev s_closed_places : Stmt := top 42
abbrev s_is_closed_list : Stmt := top 43
abbrev s_first_word_to : Stmt := top 44
abbrev s_two_words : Stmt := top 45
abbrev s_law_number : Stmt := top 47
abbrev s_law_draws : Stmt := top 48
abbrev s_law_next : Stmt := top 49
abbrev s_law_text : Stmt := top 50
abbrev s_law_walked : Stmt := top 51
abbrev s_law_form : Stmt := top 52
abbrev s_law_out : Stmt := top 53
abbrev s_law_machine : Stmt := top 54
abbrev s_law_drawn : Stmt := top 55
abbrev s_law_rest : Stmt := top 56
abbrev s_law_moves : Stmt := top 57
abbrev s_law_order : Stmt := top 58
abbrev s_law_starts : Stmt := top 59
abbrev s_law_following : Stmt := top 60
abbrev s_law_words : Stmt := top 62
abbrev s_law_is_closed : Stmt := top 63
abbrev s_law_met : Stmt := top 64
abbrev s_law : Stmt := top 65
theorem sc_check_size : FnScope ["k"] ["k"] (defScope s_check_size) := ⟨rfl, rfl, rfl, by decide +kernel, rfl, by decide +kernel, by decide +kernel⟩
theorem sc_has_letters : FnScope ["k", "word", "letter"] ["k", "word"] (defScope s_has_letters) := ⟨rfl, rfl, rfl, by decide +kernel, rfl, by decide +kernel, by decide +kernel⟩
theorem sc_is_word : FnScope ["k", "word"] ["k", "word"] (defScope s_is_word) := ⟨rfl, rfl, rfl, by decide +kernel, rfl, by decide +kernel, by decide +kernel⟩
theorem sc_check_word : FnScope ["k", "word"] ["k", "word"] (defScope s_check_word) := ⟨rfl, rfl, rfl, by decide +kernel, rfl, by decide +kernel, by decide +kernel⟩
theorem sc_key_of : FnScope ["word"] ["word"] (defScope s_key_of) := ⟨rfl, rfl, rfl, by decide +kernel, rfl, by decide +kernel, by decide +kernel⟩
theorem sc_common : FnScope ["one", "other", "size"] ["one", "other"] (defScope s_common) := ⟨rfl, rfl, rfl, by decide +kernel, rfl, by decide +kernel, by decide +kernel⟩
theorem sc_is_string : FnScope ["k", "text"] ["k", "text"] (defScope s_is_string) := ⟨rfl, rfl, rfl, by decide +kernel, rfl, by decide +kernel, by decide +kernel⟩
theorem sc_is_row : FnScope ["k", "count", "row", "last", "entries", "out", "following"] ["k", "count", "row"] (defScope s_is_row) := ⟨rfl, rfl, rfl, by decide +kernel, rfl, by decide +kernel, by decide +kernel⟩
theorem sc_is_formed : FnScope ["machine", "most", "k", "first", "rows", "row"] ["machine", "most"] (defScope s_is_formed) := ⟨rfl, rfl, rfl, by decide +kernel, rfl, by decide +kernel, by decide +kernel⟩
theorem sc_is_wide : FnScope ["machine"] ["machine"] (defScope s_is_wide) := ⟨rfl, rfl, rfl, by decide +kernel, rfl, by decide +kernel, by decide +kernel⟩
theorem sc_check_wide : FnScope ["machine"] ["machine"] (defScope s_check_wide) := ⟨rfl, rfl, rfl, by decide +kernel, rfl, by decide +kernel, by decide +kernel⟩
theorem sc_walked : FnScope ["machine", "state", "word", "parts", "letter", "out"] ["machine", "state", "word"] (defScope s_walked) := ⟨rfl, rfl, rfl, by decide +kernel, rfl, by decide +kernel, by decide +kernel⟩
theorem sc_changed : FnScope ["machine", "word", "text", "state"] ["machine", "word"] (defScope s_changed) := ⟨rfl, rfl, rfl, by decide +kernel, rfl, by decide +kernel, by decide +kernel⟩
theorem sc_check_call : FnScope ["machine", "word"] ["machine", "word"] (defScope s_check_call) := ⟨rfl, rfl, rfl, by decide +kernel, rfl, by decide +kernel, by decide +kernel⟩
theorem sc_form : FnScope ["machine", "word"] ["machine", "word"] (defScope s_form) := ⟨rfl, rfl, rfl, by decide +kernel, rfl, by decide +kernel, by decide +kernel⟩
theorem sc_reached_states : FnScope ["machine", "found", "met", "at", "_", "following"] ["machine"] (defScope s_reached_states) := ⟨rfl, rfl, rfl, by decide +kernel, rfl, by decide +kernel, by decide +kernel⟩
theorem sc_rest_of : FnScope ["x", "y", "size"] ["x", "y"] (defScope s_rest_of) := ⟨rfl, rfl, rfl, by decide +kernel, rfl, by decide +kernel, by decide +kernel⟩
theorem sc_moves : FnScope ["machine", "state", "last", "entries", "found", "letter", "out", "following"] ["machine", "state"] (defScope s_moves) := ⟨rfl, rfl, rfl, by decide +kernel, rfl, by decide +kernel, by decide +kernel⟩
theorem sc_is_done : FnScope ["place"] ["place"] (defScope s_is_done) := ⟨rfl, rfl, rfl, by decide +kernel, rfl, by decide +kernel, by decide +kernel⟩
theorem sc_starting : FnScope ["machine", "found", "state", "ways", "earlier", "letter", "x", "s", "other", "y", "t", "rest"] ["machine"] (defScope s_starting) := ⟨rfl, rfl, rfl, by decide +kernel, rfl, by decide +kernel, by decide +kernel⟩
theorem sc_going : FnScope ["machine", "place", "s", "t", "x", "y", "found", "letter", "out", "following", "rest"] ["machine", "place"] (defScope s_going) := ⟨rfl, rfl, rfl, by decide +kernel, rfl, by decide +kernel, by decide +kernel⟩
theorem sc_S_init : FnScope ["self", "machine", "state", "letter", "other", "place"] ["self", "machine"] (defScope s_S_init) := ⟨rfl, rfl, rfl, by decide +kernel, rfl, by decide +kernel, by decide +kernel⟩
theorem sc_S_take : FnScope ["self", "place", "words"] ["self", "place", "words"] (defScope s_S_take) := ⟨rfl, rfl, rfl, by decide +kernel, rfl, by decide +kernel, by decide +kernel⟩
theorem sc_S_look : FnScope ["self", "at", "state", "one", "other", "letter", "second", "place"] ["self"] (defScope s_S_look) := ⟨rfl, rfl, rfl, by decide +kernel, rfl, by decide +kernel, by decide +kernel⟩
theorem sc_starts : FnScope ["machine", "found", "_", "place"] ["machine"] (defScope s_starts) := ⟨rfl, rfl, rfl, by decide +kernel, rfl, by decide +kernel, by decide +kernel⟩
theorem sc_check_place : FnScope ["machine", "place", "s", "t", "x", "y", "count"] ["machine", "place"] (defScope s_check_place) := ⟨rfl, rfl, rfl, by decide +kernel, rfl, by decide +kernel, by decide +kernel⟩
theorem sc_following : FnScope ["machine", "place", "_", "found"] ["machine", "place"] (defScope s_following) := ⟨rfl, rfl, rfl, by decide +kernel, rfl, by decide +kernel, by decide +kernel⟩
theorem sc_closed_places : FnScope ["machine", "search"] ["machine"] (defScope s_closed_places) := ⟨rfl, rfl, rfl, by decide +kernel, rfl, by decide +kernel, by decide +kernel⟩
theorem sc_is_closed_list : FnScope ["machine", "places", "known", "place", "after", "found"] ["machine", "places"] (defScope s_is_closed_list) := ⟨rfl, rfl, rfl, by decide +kernel, rfl, by decide +kernel, by decide +kernel⟩
theorem sc_first_word_to : FnScope ["machine", "state", "words", "met", "letter", "_", "after"] ["machine", "state"] (defScope s_first_word_to) := ⟨rfl, rfl, rfl, by decide +kernel, rfl, by decide +kernel, by decide +kernel⟩
theorem sc_two_words : FnScope ["machine", "search", "state", "one", "other", "begin"] ["machine"] (defScope s_two_words) := ⟨rfl, rfl, rfl, by decide +kernel, rfl, by decide +kernel, by decide +kernel⟩
theorem sc_law_number : FnScope ["_law_cell"] ["_law_cell"] (defScope s_law_number) := ⟨rfl, rfl, rfl, by decide +kernel, rfl, by decide +kernel, by decide +kernel⟩
theorem sc_law_draws : FnScope ["_law_script", "_law_draws_here", "_law_cell", "_law_rest_here", "_law_k", "_law_once", "_law_twice"] ["_law_script"] (defScope s_law_draws) := ⟨rfl, rfl, rfl, by decide +kernel, rfl, by decide +kernel, by decide +kernel⟩
theorem sc_law_next : FnScope ["_law_draws_here"] ["_law_draws_here"] (defScope s_law_next) := ⟨rfl, rfl, rfl, by decide +kernel, rfl, by decide +kernel, by decide +kernel⟩
theorem sc_law_text : FnScope ["_law_draws_here", "_law_k", "_law_most", "_law_size", "_law_j"] ["_law_draws_here", "_law_k", "_law_most"] (defScope s_law_text) := ⟨rfl, rfl, rfl, by decide +kernel, rfl, by decide +kernel, by decide +kernel⟩
theorem sc_law_walked : FnScope ["_law_machine_here", "_law_state", "_law_word", "_law_text_here", "_law_letter", "_law_out_here"] ["_law_machine_here", "_law_state", "_law_word"] (defScope s_law_walked) := ⟨rfl, rfl, rfl, by decide +kernel, rfl, by decide +kernel, by decide +kernel⟩
theorem sc_law_form : FnScope ["_law_machine_here", "_law_word", "_law_text_here", "_law_state"] ["_law_machine_here", "_law_word"] (defScope s_law_form) := ⟨rfl, rfl, rfl, by decide +kernel, rfl, by decide +kernel, by decide +kernel⟩
theorem sc_law_out : FnScope ["_law_draws_here", "_law_k", "_law_letter", "_law_draw"] ["_law_draws_here", "_law_k", "_law_letter"] (defScope s_law_out) := ⟨rfl, rfl, rfl, by decide +kernel, rfl, by decide +kernel, by decide +kernel⟩
theorem sc_law_machine : FnScope ["_law_draws_here", "_law_k", "_law_most", "_law_count", "_law_rows", "_law_state", "_law_entries", "_law_letter", "_law_out_here", "_law_last"] ["_law_draws_here", "_law_k", "_law_most"] (defScope s_law_machine) := ⟨rfl, rfl, rfl, by decide +kernel, rfl, by decide +kernel, by decide +kernel⟩
theorem sc_law_drawn : FnScope ["_law_draws_here", "_law_k", "_law_kind", "_law_machine_here", "_law_rows", "_law_last", "_law_entries", "_law_shift", "_law_outs", "_law_letter", "_law_out_here"] ["_law_draws_here", "_law_k"] (defScope s_law_drawn) := ⟨rfl, rfl, rfl, by decide +kernel, rfl, by decide +kernel, by decide +kernel⟩
theorem sc_law_rest : FnScope ["_law_one", "_law_other", "_law_size", "_law_at"] ["_law_one", "_law_other"] (defScope s_law_rest) := ⟨rfl, rfl, rfl, by decide +kernel, rfl, by decide +kernel, by decide +kernel⟩
theorem sc_law_moves : FnScope ["_law_machine_here", "_law_state", "_law_last", "_law_entries"] ["_law_machine_here", "_law_state"] (defScope s_law_moves) := ⟨rfl, rfl, rfl, by decide +kernel, rfl, by decide +kernel, by decide +kernel⟩
theorem sc_law_order : FnScope ["_law_rows", "_law_order_here", "_law_j", "_law_out_here", "_law_following_here"] ["_law_rows"] (defScope s_law_order) := ⟨rfl, rfl, rfl, by decide +kernel, rfl, by decide +kernel, by decide +kernel⟩
theorem sc_law_starts : FnScope ["_law_machine_here", "_law_found", "_law_state", "_law_moves_here", "_law_earlier", "_law_later", "_law_rest_here", "_law_place"] ["_law_machine_here"] (defScope s_law_starts) := ⟨rfl, rfl, rfl, by decide +kernel, rfl, by decide +kernel, by decide +kernel⟩
theorem sc_law_following : FnScope ["_law_machine_here", "_law_place", "_law_s", "_law_t", "_law_lead", "_law_first", "_law_state", "_law_found", "_law_out_here", "_law_following_here", "_law_rest_here"] ["_law_machine_here", "_law_place"] (defScope s_law_following) := ⟨rfl, rfl, rfl, by decide +kernel, rfl, by decide +kernel, by decide +kernel⟩
theorem sc_law_words : FnScope ["_law_k", "_law_length", "_law_words_here", "_law_ring", "_law_j", "_law_longer", "_law_word", "_law_letter"] ["_law_k", "_law_length"] (defScope s_law_words) := ⟨rfl, rfl, rfl, by decide +kernel, rfl, by decide +kernel, by decide +kernel⟩
theorem sc_law_is_closed : FnScope ["_law_machine_here", "_law_places_here", "_law_place", "_law_after"] ["_law_machine_here", "_law_places_here"] (defScope s_law_is_closed) := ⟨rfl, rfl, rfl, by decide +kernel, rfl, by decide +kernel, by decide +kernel⟩
theorem sc_law_met : FnScope ["_law_machine_here", "_law_most", "_law_found", "_law_j", "_law_place"] ["_law_machine_here", "_law_most"] (defScope s_law_met) := ⟨rfl, rfl, rfl, by decide +kernel, rfl, by decide +kernel, by decide +kernel⟩
theorem sc_law : FnScope ["_law_script", "_law_draws_here", "_law_k", "_law_machine_here", "_law_places_here", "_law_words_here", "_law_one", "_law_other", "_law_met_here", "_law_good", "_law_place", "_law_given", "_law_forms", "_law_texts", "_law_text_here", "_law_j"] ["_law_script"] (defScope s_law) := ⟨rfl, rfl, rfl, by decide +kernel, rfl, by decide +kernel, by decide +kernel⟩
/-- what the top has written -/
structure Tx (K : PySem.W.Frag) (mg : Str → Option Value) where
  f_check_size : Addr
  d_check_size : FuncData
  F_check_size : FnP K "check_size" "check_size" s_check_size f_check_size d_check_size
  g_check_size : mg "check_size" = some (.ref f_check_size)
  f_has_letters : Addr
  d_has_letters : FuncData
  F_has_letters : FnP K "has_letters" "has_letters" s_has_letters f_has_letters d_has_letters
  g_has_letters : mg "has_letters" = some (.ref f_has_letters)
  f_is_word : Addr
  d_is_word : FuncData
  F_is_word : FnP K "is_word" "is_word" s_is_word f_is_word d_is_word
  g_is_word : mg "is_word" = some (.ref f_is_word)
  f_check_word : Addr
  d_check_word : FuncData
  F_check_word : FnP K "check_word" "check_word" s_check_word f_check_word d_check_word
  g_check_word : mg "check_word" = some (.ref f_check_word)
  f_key_of : Addr
  d_key_of : FuncData
  F_key_of : FnP K "key_of" "key_of" s_key_of f_key_of d_key_of
  g_key_of : mg "key_of" = some (.ref f_key_of)
  f_common : Addr
  d_common : FuncData
  F_common : FnP K "common" "common" s_common f_common d_common
  g_common : mg "common" = some (.ref f_common)
  f_is_string : Addr
  d_is_string : FuncData
  F_is_string : FnP K "is_string" "is_string" s_is_string f_is_string d_is_string
  g_is_string : mg "is_string" = some (.ref f_is_string)
  f_is_row : Addr
  d_is_row : FuncData
  F_is_row : FnP K "is_row" "is_row" s_is_row f_is_row d_is_row
  g_is_row : mg "is_row" = some (.ref f_is_row)
  f_is_formed : Addr
  d_is_formed : FuncData
  F_is_formed : FnP K "is_formed" "is_formed" s_is_formed f_is_formed d_is_formed
  g_is_formed : mg "is_formed" = some (.ref f_is_formed)
  f_is_wide : Addr
  d_is_wide : FuncData
  F_is_wide : FnP K "is_wide" "is_wide" s_is_wide f_is_wide d_is_wide
  g_is_wide : mg "is_wide" = some (.ref f_is_wide)
  f_check_wide : Addr
  d_check_wide : FuncData
  F_check_wide : FnP K "check_wide" "check_wide" s_check_wide f_check_wide d_check_wide
  g_check_wide : mg "check_wide" = some (.ref f_check_wide)
  f_walked : Addr
  d_walked : FuncData
  F_walked : FnP K "walked" "walked" s_walked f_walked d_walked
  g_walked : mg "walked" = some (.ref f_walked)
  f_changed : Addr
  d_changed : FuncData
  F_changed : FnP K "changed" "changed" s_changed f_changed d_changed
  g_changed : mg "changed" = some (.ref f_changed)
  f_check_call : Addr
  d_check_call : FuncData
  F_check_call : FnP K "check_call" "check_call" s_check_call f_check_call d_check_call
  g_check_call : mg "check_call" = some (.ref f_check_call)
  f_form : Addr
  d_form : FuncData
  F_form : FnP K "form" "form" s_form f_form d_form
  g_form : mg "form" = some (.ref f_form)
  f_reached_states : Addr
  d_reached_states : FuncData
  F_reached_states : FnP K "reached_states" "reached_states" s_reached_states f_reached_states d_reached_states
  g_reached_states : mg "reached_states" = some (.ref f_reached_states)
  f_rest_of : Addr
  d_rest_of : FuncData
  F_rest_of : FnP K "rest_of" "rest_of" s_rest_of f_rest_of d_rest_of
  g_rest_of : mg "rest_of" = some (.ref f_rest_of)
  f_moves : Addr
  d_moves : FuncData
  F_moves : FnP K "moves" "moves" s_moves f_moves d_moves
  g_moves : mg "moves" = some (.ref f_moves)
  f_is_done : Addr
  d_is_done : FuncData
  F_is_done : FnP K "is_done" "is_done" s_is_done f_is_done d_is_done
  g_is_done : mg "is_done" = some (.ref f_is_done)
  f_starting : Addr
  d_starting : FuncData
  F_starting : FnP K "starting" "starting" s_starting f_starting d_starting
  g_starting : mg "starting" = some (.ref f_starting)
  f_going : Addr
  d_going : FuncData
  F_going : FnP K "going" "going" s_going f_going d_going
  g_going : mg "going" = some (.ref f_going)
  f_S_init : Addr
  d_S_init : FuncData
  F_S_init : FnP K "__init__" "Search.__init__" s_S_init f_S_init d_S_init
  f_S_take : Addr
  d_S_take : FuncData
  F_S_take : FnP K "take" "Search.take" s_S_take f_S_take d_S_take
  f_S_look : Addr
  d_S_look : FuncData
  F_S_look : FnP K "look" "Search.look" s_S_look f_S_look d_S_look
  f_starts : Addr
  d_starts : FuncData
  F_starts : FnP K "starts" "starts" s_starts f_starts d_starts
  g_starts : mg "starts" = some (.ref f_starts)
  f_check_place : Addr
  d_check_place : FuncData
  F_check_place : FnP K "check_place" "check_place" s_check_place f_check_place d_check_place
  g_check_place : mg "check_place" = some (.ref f_check_place)
  f_following : Addr
  d_following : FuncData
  F_following : FnP K "following" "following" s_following f_following d_following
  g_following : mg "following" = some (.ref f_following)
  f_closed_places : Addr
  d_closed_places : FuncData
  F_closed_places : FnP K "closed_places" "closed_places" s_closed_places f_closed_places d_closed_places
  g_closed_places : mg "closed_places" = some (.ref f_closed_places)
  f_is_closed_list : Addr
  d_is_closed_list : FuncData
  F_is_closed_list : FnP K "is_closed_list" "is_closed_list" s_is_closed_list f_is_closed_list d_is_closed_list
  g_is_closed_list : mg "is_closed_list" = some (.ref f_is_closed_list)
  f_first_word_to : Addr
  d_first_word_to : FuncData
  F_first_word_to : FnP K "first_word_to" "first_word_to" s_first_word_to f_first_word_to d_first_word_to
  g_first_word_to : mg "first_word_to" = some (.ref f_first_word_to)
  f_two_words : Addr
  d_two_words : FuncData
  F_two_words : FnP K "two_words" "two_words" s_two_words f_two_words d_two_words
  g_two_words : mg "two_words" = some (.ref f_two_words)
  f_law_number : Addr
  d_law_number : FuncData
  F_law_number : FnP K "_law_number" "_law_number" s_law_number f_law_number d_law_number
  g_law_number : mg "_law_number" = some (.ref f_law_number)
  f_law_draws : Addr
  d_law_draws : FuncData
  F_law_draws : FnP K "_law_draws" "_law_draws" s_law_draws f_law_draws d_law_draws
  g_law_draws : mg "_law_draws" = some (.ref f_law_draws)
  f_law_next : Addr
  d_law_next : FuncData
  F_law_next : FnP K "_law_next" "_law_next" s_law_next f_law_next d_law_next
  g_law_next : mg "_law_next" = some (.ref f_law_next)
  f_law_text : Addr
  d_law_text : FuncData
  F_law_text : FnP K "_law_text" "_law_text" s_law_text f_law_text d_law_text
  g_law_text : mg "_law_text" = some (.ref f_law_text)
  f_law_walked : Addr
  d_law_walked : FuncData
  F_law_walked : FnP K "_law_walked" "_law_walked" s_law_walked f_law_walked d_law_walked
  g_law_walked : mg "_law_walked" = some (.ref f_law_walked)
  f_law_form : Addr
  d_law_form : FuncData
  F_law_form : FnP K "_law_form" "_law_form" s_law_form f_law_form d_law_form
  g_law_form : mg "_law_form" = some (.ref f_law_form)
  f_law_out : Addr
  d_law_out : FuncData
  F_law_out : FnP K "_law_out" "_law_out" s_law_out f_law_out d_law_out
  g_law_out : mg "_law_out" = some (.ref f_law_out)
  f_law_machine : Addr
  d_law_machine : FuncData
  F_law_machine : FnP K "_law_machine" "_law_machine" s_law_machine f_law_machine d_law_machine
  g_law_machine : mg "_law_machine" = some (.ref f_law_machine)
  f_law_drawn : Addr
  d_law_drawn : FuncData
  F_law_drawn : FnP K "_law_drawn" "_law_drawn" s_law_drawn f_law_drawn d_law_drawn
  g_law_drawn : mg "_law_drawn" = some (.ref f_law_drawn)
  f_law_rest : Addr
  d_law_rest : FuncData
  F_law_rest : FnP K "_law_rest" "_law_rest" s_law_rest f_law_rest d_law_rest
  g_law_rest : mg "_law_rest" = some (.ref f_law_rest)
  f_law_moves : Addr
  d_law_moves : FuncData
  F_law_moves : FnP K "_law_moves" "_law_moves" s_law_moves f_law_moves d_law_moves
  g_law_moves : mg "_law_moves" = some (.ref f_law_moves)
  f_law_order : Addr
  d_law_order : FuncData
  F_law_order : FnP K "_law_order" "_law_order" s_law_order f_law_order d_law_order
  g_law_order : mg "_law_order" = some (.ref f_law_order)
  f_law_starts : Addr
  d_law_starts : FuncData
  F_law_starts : FnP K "_law_starts" "_law_starts" s_law_starts f_law_starts d_law_starts
  g_law_starts : mg "_law_starts" = some (.ref f_law_starts)
  f_law_following : Addr
  d_law_following : FuncData
  F_law_following : FnP K "_law_following" "_law_following" s_law_following f_law_following d_law_following
  g_law_following : mg "_law_following" = some (.ref f_law_following)
  f_law_words : Addr
  d_law_words : FuncData
  F_law_words : FnP K "_law_words" "_law_words" s_law_words f_law_words d_law_words
  g_law_words : mg "_law_words" = some (.ref f_law_words)
  f_law_is_closed : Addr
  d_law_is_closed : FuncData
  F_law_is_closed : FnP K "_law_is_closed" "_law_is_closed" s_law_is_closed f_law_is_closed d_law_is_closed
  g_law_is_closed : mg "_law_is_closed" = some (.ref f_law_is_closed)
  f_law_met : Addr
  d_law_met : FuncData
  F_law_met : FnP K "_law_met" "_law_met" s_law_met f_law_met d_law_met
  g_law_met : mg "_law_met" = some (.ref f_law_met)
  f_law : Addr
  d_law : FuncData
  F_law : FnP K "law" "law" s_law f_law d_law
  g_law : mg "law" = some (.ref f_law)
  n_all : mg "all" = none
  n_any : mg "any" = none
  n_len : mg "len" = none
  n_min : mg "min" = none
  n_int : mg "int" = none
  n_tuple : mg "tuple" = none
  n_list : mg "list" = none
  n_zip : mg "zip" = none
  n_range : mg "range" = none
  n_enumerate : mg "enumerate" = none
  n_sorted : mg "sorted" = none
  LETTERS : ∃ t, mg "LETTERS" = some (.str "abcdef" t)
  MOST_LETTERS : ∃ t, mg "MOST_LETTERS" = some (.int (60) t)
  MOST_WIDE : ∃ t, mg "MOST_WIDE" = some (.int (2000) t)
  LONGEST : ∃ t, mg "LONGEST" = some (.int (60) t)
  MOST_PLACES : ∃ t, mg "MOST_PLACES" = some (.int (4000) t)
  END : ∃ t, mg "END" = some (.int (-1) t)
  C : Addr
  g_Search : mg "Search" = some (.ref C)
  cl : Cls K C
  mkS : Mk K C f_S_init
  m_take : Meth K C "take" f_S_take
  m_look : Meth K C "look" f_S_look
  a_machine : NoAttr K C "machine"
  a_places : NoAttr K C "places"
  a_words : NoAttr K C "words"
  a_done : NoAttr K C "done"
section
variable {K : PySem.W.Frag} {mg : Str → Option Value}
theorem Tx.b_check_size (T : Tx K mg) : Binds K T.d_check_size ["k"] [] := T.F_check_size.bindsN fun _ _ _ _ _ _ us hl => match us, hl with | [_], _ => rfl
theorem Tx.b_has_letters (T : Tx K mg) : Binds K T.d_has_letters ["k", "word"] [] := T.F_has_letters.bindsN fun _ _ _ _ _ _ us hl => match us, hl with | [_, _], _ => rfl
theorem Tx.b_is_word (T : Tx K mg) : Binds K T.d_is_word ["k", "word"] [] := T.F_is_word.bindsN fun _ _ _ _ _ _ us hl => match us, hl with | [_, _], _ => rfl
theorem Tx.b_check_word (T : Tx K mg) : Binds K T.d_check_word ["k", "word"] [] := T.F_check_word.bindsN fun _ _ _ _ _ _ us hl => match us, hl with | [_, _], _ => rfl
theorem Tx.b_key_of (T : Tx K mg) : Binds K T.d_key_of ["word"] [] := T.F_key_of.bindsN fun _ _ _ _ _ _ us hl => match us, hl with | [_], _ => rfl
theorem Tx.b_common (T : Tx K mg) : Binds K T.d_common ["one", "other"] [] := T.F_common.bindsN fun _ _ _ _ _ _ us hl => match us, hl with | [_, _], _ => rfl
theorem Tx.b_is_string (T : Tx K mg) : Binds K T.d_is_string ["k", "text"] [] := T.F_is_string.bindsN fun _ _ _ _ _ _ us hl => match us, hl with | [_, _], _ => rfl
theorem Tx.b_is_row (T : Tx K mg) : Binds K T.d_is_row ["k", "count", "row"] [] := T.F_is_row.bindsN fun _ _ _ _ _ _ us hl => match us, hl with | [_, _, _], _ => rfl
theorem Tx.b_is_formed (T : Tx K mg) : Binds K T.d_is_formed ["machine", "most"] [] := T.F_is_formed.bindsN fun _ _ _ _ _ _ us hl => match us, hl with | [_, _], _ => rfl
theorem Tx.b_is_wide (T : Tx K mg) : Binds K T.d_is_wide ["machine"] [] := T.F_is_wide.bindsN fun _ _ _ _ _ _ us hl => match us, hl with | [_], _ => rfl
theorem Tx.b_check_wide (T : Tx K mg) : Binds K T.d_check_wide ["machine"] [] := T.F_check_wide.bindsN fun _ _ _ _ _ _ us hl => match us, hl with | [_], _ => rfl
theorem Tx.b_walked (T : Tx K mg) : Binds K T.d_walked ["machine", "state", "word"] [] := T.F_walked.bindsN fun _ _ _ _ _ _ us hl => match us, hl with | [_, _, _], _ => rfl
theorem Tx.b_changed (T : Tx K mg) : Binds K T.d_changed ["machine", "word"] [] := T.F_changed.bindsN fun _ _ _ _ _ _ us hl => match us, hl with | [_, _], _ => rfl
theorem Tx.b_check_call (T : Tx K mg) : Binds K T.d_check_call ["machine", "word"] [] := T.F_check_call.bindsN fun _ _ _ _ _ _ us hl => match us, hl with | [_, _], _ => rfl
theorem Tx.b_form (T : Tx K mg) : Binds K T.d_form ["machine", "word"] [] := T.F_form.bindsN fun _ _ _ _ _ _ us hl => match us, hl with | [_, _], _ => rfl
theorem Tx.b_reached_states (T : Tx K mg) : Binds K T.d_reached_states ["machine"] [] := T.F_reached_states.bindsN fun _ _ _ _ _ _ us hl => match us, hl with | [_], _ => rfl
theorem Tx.b_rest_of (T : Tx K mg) : Binds K T.d_rest_of ["x", "y"] [] := T.F_rest_of.bindsN fun _ _ _ _ _ _ us hl => match us, hl with | [_, _], _ => rfl
theorem Tx.b_moves (T : Tx K mg) : Binds K T.d_moves ["machine", "state"] [] := T.F_moves.bindsN fun _ _ _ _ _ _ us hl => match us, hl with | [_, _], _ => rfl
theorem Tx.b_is_done (T : Tx K mg) : Binds K T.d_is_done ["place"] [] := T.F_is_done.bindsN fun _ _ _ _ _ _ us hl => match us, hl with | [_], _ => rfl
theorem Tx.b_starting (T : Tx K mg) : Binds K T.d_starting ["machine"] [] := T.F_starting.bindsN fun _ _ _ _ _ _ us hl => match us, hl with | [_], _ => rfl
theorem Tx.b_going (T : Tx K mg) : Binds K T.d_going ["machine", "place"] [] := T.F_going.bindsN fun _ _ _ _ _ _ us hl => match us, hl with | [_, _], _ => rfl
theorem Tx.b_S_init (T : Tx K mg) : Binds K T.d_S_init ["self", "machine"] [] := T.F_S_init.bindsN fun _ _ _ _ _ _ us hl => match us, hl with | [_, _], _ => rfl
theorem Tx.b_S_take (T : Tx K mg) : Binds K T.d_S_take ["self", "place", "words"] [] := T.F_S_take.bindsN fun _ _ _ _ _ _ us hl => match us, hl with | [_, _, _], _ => rfl
theorem Tx.b_S_look (T : Tx K mg) : Binds K T.d_S_look ["self"] [] := T.F_S_look.bindsN fun _ _ _ _ _ _ us hl => match us, hl with | [_], _ => rfl
theorem Tx.b_starts (T : Tx K mg) : Binds K T.d_starts ["machine"] [] := T.F_starts.bindsN fun _ _ _ _ _ _ us hl => match us, hl with | [_], _ => rfl
theorem Tx.b_check_place (T : Tx K mg) : Binds K T.d_check_place ["machine", "place"] [] := T.F_check_place.bindsN fun _ _ _ _ _ _ us hl => match us, hl with | [_, _], _ => rfl
theorem Tx.b_following (T : Tx K mg) : Binds K T.d_following ["machine", "place"] [] := T.F_following.bindsN fun _ _ _ _ _ _ us hl => match us, hl with | [_, _], _ => rfl
theorem Tx.b_closed_places (T : Tx K mg) : Binds K T.d_closed_places ["machine"] [] := T.F_closed_places.bindsN fun _ _ _ _ _ _ us hl => match us, hl with | [_], _ => rfl
theorem Tx.b_is_closed_list (T : Tx K mg) : Binds K T.d_is_closed_list ["machine", "places"] [] := T.F_is_closed_list.bindsN fun _ _ _ _ _ _ us hl => match us, hl with | [_, _], _ => rfl
theorem Tx.b_first_word_to (T : Tx K mg) : Binds K T.d_first_word_to ["machine", "state"] [] := T.F_first_word_to.bindsN fun _ _ _ _ _ _ us hl => match us, hl with | [_, _], _ => rfl
theorem Tx.b_two_words (T : Tx K mg) : Binds K T.d_two_words ["machine"] [] := T.F_two_words.bindsN fun _ _ _ _ _ _ us hl => match us, hl with | [_], _ => rfl
theorem Tx.b_law_number (T : Tx K mg) : Binds K T.d_law_number ["_law_cell"] [] := T.F_law_number.bindsN fun _ _ _ _ _ _ us hl => match us, hl with | [_], _ => rfl
theorem Tx.b_law_draws (T : Tx K mg) : Binds K T.d_law_draws ["_law_script"] [] := T.F_law_draws.bindsN fun _ _ _ _ _ _ us hl => match us, hl with | [_], _ => rfl
theorem Tx.b_law_next (T : Tx K mg) : Binds K T.d_law_next ["_law_draws_here"] [] := T.F_law_next.bindsN fun _ _ _ _ _ _ us hl => match us, hl with | [_], _ => rfl
theorem Tx.b_law_text (T : Tx K mg) : Binds K T.d_law_text ["_law_draws_here", "_law_k", "_law_most"] [] := T.F_law_text.bindsN fun _ _ _ _ _ _ us hl => match us, hl with | [_, _, _], _ => rfl
theorem Tx.b_law_walked (T : Tx K mg) : Binds K T.d_law_walked ["_law_machine_here", "_law_state", "_law_word"] [] := T.F_law_walked.bindsN fun _ _ _ _ _ _ us hl => match us, hl with | [_, _, _], _ => rfl
theorem Tx.b_law_form (T : Tx K mg) : Binds K T.d_law_form ["_law_machine_here", "_law_word"] [] := T.F_law_form.bindsN fun _ _ _ _ _ _ us hl => match us, hl with | [_, _], _ => rfl
theorem Tx.b_law_out (T : Tx K mg) : Binds K T.d_law_out ["_law_draws_here", "_law_k", "_law_letter"] [] := T.F_law_out.bindsN fun _ _ _ _ _ _ us hl => match us, hl with | [_, _, _], _ => rfl
theorem Tx.b_law_machine (T : Tx K mg) : Binds K T.d_law_machine ["_law_draws_here", "_law_k", "_law_most"] [] := T.F_law_machine.bindsN fun _ _ _ _ _ _ us hl => match us, hl with | [_, _, _], _ => rfl
theorem Tx.b_law_drawn (T : Tx K mg) : Binds K T.d_law_drawn ["_law_draws_here", "_law_k"] [] := T.F_law_drawn.bindsN fun _ _ _ _ _ _ us hl => match us, hl with | [_, _], _ => rfl
theorem Tx.b_law_rest (T : Tx K mg) : Binds K T.d_law_rest ["_law_one", "_law_other"] [] := T.F_law_rest.bindsN fun _ _ _ _ _ _ us hl => match us, hl with | [_, _], _ => rfl
theorem Tx.b_law_moves (T : Tx K mg) : Binds K T.d_law_moves ["_law_machine_here", "_law_state"] [] := T.F_law_moves.bindsN fun _ _ _ _ _ _ us hl => match us, hl with | [_, _], _ => rfl
theorem Tx.b_law_order (T : Tx K mg) : Binds K T.d_law_order ["_law_rows"] [] := T.F_law_order.bindsN fun _ _ _ _ _ _ us hl => match us, hl with | [_], _ => rfl
theorem Tx.b_law_starts (T : Tx K mg) : Binds K T.d_law_starts ["_law_machine_here"] [] := T.F_law_starts.bindsN fun _ _ _ _ _ _ us hl => match us, hl with | [_], _ => rfl
theorem Tx.b_law_following (T : Tx K mg) : Binds K T.d_law_following ["_law_machine_here", "_law_place"] [] := T.F_law_following.bindsN fun _ _ _ _ _ _ us hl => match us, hl with | [_, _], _ => rfl
theorem Tx.b_law_words (T : Tx K mg) : Binds K T.d_law_words ["_law_k", "_law_length"] [] := T.F_law_words.bindsN fun _ _ _ _ _ _ us hl => match us, hl with | [_, _], _ => rfl
theorem Tx.b_law_is_closed (T : Tx K mg) : Binds K T.d_law_is_closed ["_law_machine_here", "_law_places_here"] [] := T.F_law_is_closed.bindsN fun _ _ _ _ _ _ us hl => match us, hl with | [_, _], _ => rfl
theorem Tx.b_law_met (T : Tx K mg) : Binds K T.d_law_met ["_law_machine_here", "_law_most"] [] := T.F_law_met.bindsN fun _ _ _ _ _ _ us hl => match us, hl with | [_, _], _ => rfl
theorem Tx.b_law (T : Tx K mg) : Binds K T.d_law ["_law_script"] [] := T.F_law.bindsN fun _ _ _ _ _ _ us hl => match us, hl with | [_], _ => rfl
end
end K67

/-! K3Sp: what each def promises. -/
namespace K67
open PySem PySem.Spec PyProof.Rows L2

/-- some value, all that stood as it was -/
def RetS (v : V) (H : Hp) (Q : VK) : Prop := ∀ H', Same H H' → Q v H'
/-- a machine stands at v -/
def MAt (H : Hp) (v : V) (M : Mach) : Prop := Valid M ∧ Dat H v (mD M)
/-- two words, one text -/
structure Amb (M : Mach) (u v : W) : Prop where
  lu : Let M.k u
  lv : Let M.k v
  ne : u ≠ v
  eq : form M u = form M v
theorem amb_no {M : Mach} (V : Valid M) {L : List Pl} (C : ClosedP M L) {u v : W} (a : Amb M u v) : False := a.ne (one_to_one V C a.lu a.lv a.eq)
/-- the longest common beginning -/
def com : W → W → W
  | a :: x, b :: y => if a = b then a :: com x y else []
  | _, _ => []

def sp_check_size : Sp := fun vs H Q _ => ∃ k : Nat, vs = [.int k] ∧ 2 ≤ k ∧ k ≤ 3 ∧ RetS .non H Q
def sp_has_letters : Sp := fun vs H Q _ => ∃ (k : Nat) (x : W), vs = [.int k, .str (S x)] ∧ k ≤ 3 ∧ Let k x ∧ x.length ≤ 1000 ∧ RetS (.bl true) H Q
def sp_is_word : Sp := fun vs H Q _ => ∃ (k : Nat) (x : W), vs = [.int k, .str (S x)] ∧ 2 ≤ k ∧ k ≤ 3 ∧ Let k x ∧ x.length ≤ 60 ∧ RetS (.bl true) H Q
def sp_check_word : Sp := fun vs H Q _ => ∃ (k : Nat) (x : W), vs = [.int k, .str (S x)] ∧ 2 ≤ k ∧ k ≤ 3 ∧ Let k x ∧ x.length ≤ 60 ∧ RetS .non H Q
abbrev sp_key_of : Sp := spKey
def sp_common : Sp := fun vs H Q _ => ∃ x y : W, vs = [.str (S x), .str (S y)] ∧ x.length ≤ 1000 ∧ y.length ≤ 1000 ∧ Q (.str (S (com x y))) H
def sp_is_string : Sp := fun vs H Q _ => ∃ (k : Nat) (x : W), vs = [.int k, .str (S x)] ∧ k ≤ 3 ∧ Let k x ∧ x.length ≤ 60 ∧ RetS (.bl true) H Q
def RowOk (k n : Nat) (r : W × List (W × Nat)) : Prop := Let k r.1 ∧ r.1.length ≤ 2 ∧ r.2.length = k ∧ ∀ e ∈ r.2, Let k e.1 ∧ e.1.length ≤ 2 ∧ e.2 < n
def sp_is_row : Sp := fun vs H Q _ => ∃ (k n : Nat) (v : V) (r : W × List (W × Nat)), vs = [.int k, .int n, v] ∧ k ≤ 3 ∧ Dat H v (rowD r) ∧ RowOk k n r ∧ RetS (.bl true) H Q
def sp_is_formed : Sp := fun vs H Q _ => ∃ (v : V) (n : Int) (M : Mach), vs = [v, .int n] ∧ 3 ≤ n ∧ MAt H v M ∧ RetS (.bl true) H Q
def sp_is_wide : Sp := fun vs H Q _ => ∃ (v : V) (M : Mach), vs = [v] ∧ MAt H v M ∧ RetS (.bl true) H Q
def sp_check_wide : Sp := fun vs H Q _ => ∃ (v : V) (M : Mach), vs = [v] ∧ MAt H v M ∧ RetS .non H Q
def sp_walked : Sp := fun vs H Q _ => ∃ (v : V) (M : Mach) (s : Nat) (x : W), vs = [v, .int s, .str (S x)] ∧ MAt H v M ∧ s < M.rows.length ∧ Let M.k x ∧ x.length ≤ 1000 ∧ RetV (.tuple [sD (walk M s x).1, .int (walk M s x).2]) H Q
def sp_changed : Sp := fun vs H Q _ => ∃ (v : V) (M : Mach) (x : W), vs = [v, .str (S x)] ∧ MAt H v M ∧ Let M.k x ∧ x.length ≤ 1000 ∧ RetS (.str (S (form M x))) H Q
def sp_check_call : Sp := fun vs H Q _ => ∃ (v : V) (M : Mach) (x : W), vs = [v, .str (S x)] ∧ MAt H v M ∧ Let M.k x ∧ x.length ≤ 60 ∧ RetS .non H Q
def sp_form : Sp := fun vs H Q _ => ∃ (v : V) (M : Mach) (x : W), vs = [v, .str (S x)] ∧ MAt H v M ∧ Let M.k x ∧ x.length ≤ 60 ∧ RetS (.str (S (form M x))) H Q
/-- the states that are reached, each but the first from one before it -/
structure States (M : Mach) (L : List Nat) : Prop where
  nd : L.Nodup
  all : ∀ s, s ∈ L ↔ Reach M s
  ord : ∀ (i s : Nat), L[i]? = some s → s = 0 ∨ ∃ (j p : Nat) (e : W × Nat), j < i ∧ L[j]? = some p ∧ e ∈ M.ents p ∧ e.2 = s
def natD (s : Nat) : PyData := .int s
def sp_reached_states : Sp := fun vs H Q _ => ∃ (v : V) (M : Mach), vs = [v] ∧ MAt H v M ∧ ∀ L, States M L → RetL (L.map natD) H Q
def sp_rest_of : Sp := fun vs H Q _ => ∃ x y : W, vs = [.str (S x), .str (S y)] ∧ x.length ≤ 1000 ∧ y.length ≤ 1000 ∧ RetV (restD (rest x y)) H Q
def sp_moves : Sp := fun vs H Q _ => ∃ (v : V) (M : Mach) (s : Nat), vs = [v, .int s] ∧ MAt H v M ∧ s < M.rows.length ∧ RetL ((moves M s).map mvD) H Q
def sp_is_done : Sp := fun vs H Q _ => ∃ (v : V) (p : Pl), vs = [v] ∧ Dat H v (plD p) ∧ SeqAt.shaped (plD p) = true ∧ RetS (.bl (decide (p = doneP))) H Q
structure Starts (M : Mach) (L : List Bg) : Prop where
  sound : ∀ q ∈ L, Reach M q.1 ∧ IsStart M q.1 q.2.1 q.2.2.1 q.2.2.2
  all : ∀ st l1 l2 p, Reach M st → IsStart M st l1 l2 p → p ∈ L.map fun q => q.2.2.2
def sp_starting : Sp := fun vs H Q _ => ∃ (v : V) (M : Mach), vs = [v] ∧ MAt H v M ∧ ∀ L, Starts M L → RetL (L.map bgD) H Q
def sp_going : Sp := fun vs H Q _ => ∃ (v : V) (M : Mach) (q : V) (p : Pl), vs = [v, q] ∧ MAt H v M ∧ Dat H q (plD p) ∧ PlOk M p ∧ RetL ((goL M p).map goD) H Q
structure StartPl (M : Mach) (L : List Pl) : Prop where
  sound : ∀ p ∈ L, ∃ st l1 l2, Reach M st ∧ IsStart M st l1 l2 p
  all : ∀ st l1 l2 p, Reach M st → IsStart M st l1 l2 p → p ∈ L
def sp_starts : Sp := fun vs H Q _ => ∃ (v : V) (M : Mach), vs = [v] ∧ MAt H v M ∧ ∀ L, StartPl M L → L.Nodup → RetL (L.map plD) H Q
def sp_check_place : Sp := fun vs H Q _ => ∃ (v : V) (M : Mach) (q : V) (p : Pl), vs = [v, q] ∧ MAt H v M ∧ Dat H q (plD p) ∧ PlOk M p ∧ RetS .non H Q
def sp_following : Sp := fun vs H Q _ => ∃ (v : V) (M : Mach) (q : V) (p : Pl), vs = [v, q] ∧ MAt H v M ∧ Dat H q (plD p) ∧ PlOk M p ∧ RetL ((foll M p).map plD) H Q
def sp_closed_places : Sp := fun vs H Q _ => ∃ (v : V) (M : Mach), vs = [v] ∧ MAt H v M ∧ (∀ L, ClosedP M L → (∀ p ∈ L, PlOk M p) → RetL (L.map plD) H Q) ∧ ∀ x y, Amb M x y → RetS .non H Q
/-- a list of places stands at l -/
def LAt (H : Hp) (l : Addr) (L : List Pl) : Prop := ∃ xs, H l = some (.lst xs) ∧ Dats H xs (L.map plD)
def sp_is_closed_list : Sp := fun vs H Q _ => ∃ (v : V) (M : Mach) (l : Addr) (L : List Pl), vs = [v, .ref l] ∧ MAt H v M ∧ LAt H l L ∧ L.length ≤ 100000 ∧ (∀ p ∈ L, PlOk M p) ∧ ∀ b : Bool, (b = true ↔ ClosedP M L) → RetS (.bl b) H Q
def sp_first_word_to : Sp := fun vs H Q _ => ∃ (v : V) (M : Mach) (s : Nat), vs = [v, .int s] ∧ MAt H v M ∧ Reach M s ∧ ∀ x, Let M.k x → (walk M 0 x).2 = s → x.length ≤ 3 → RetS (.str (S x)) H Q
def sp_two_words : Sp := fun vs H Q _ => ∃ (v : V) (M : Mach), vs = [v] ∧ MAt H v M ∧ (∀ L, ClosedP M L → RetS .non H Q) ∧ ∀ x y, Amb M x y → x.length ≤ 900 → y.length ≤ 900 → RetV (.tuple [sD x, sD y]) H Q

/-! ### the law's own -/
/-- a list of draws -/
def DL (H : Hp) (l : Addr) : Prop := ∃ ns : List Int, H l = some (.lst (ns.map V.int)) ∧ ns.length ≤ 4000
/-- only the list of draws has changed -/
structure Dr (l : Addr) (H H' : Hp) : Prop where
  keep : ∀ b u, b ≠ l → H b = some u → H' b = some u
  dl : DL H' l
theorem Dr.refl {l : Addr} {H : Hp} (d : DL H l) : Dr l H H := ⟨fun _ _ _ e => e, d⟩
theorem Dr.trans {l : Addr} {H H1 H2 : Hp} (a : Dr l H H1) (b : Dr l H1 H2) : Dr l H H2 := ⟨fun c u n e => b.keep c u n (a.keep c u n e), b.dl⟩
theorem Dr.of_same {l : Addr} {H H' : Hp} (d : DL H l) (s : Same H H') : Dr l H H' := ⟨fun b u _ e => s b u e, let ⟨ns, h, z⟩ := d; ⟨ns, s _ _ h, z⟩⟩
theorem Dr.ts {l : Addr} {H H' : Hp} (a : Dr l H H') (d : DL H l) : TS H H' := fun b xs e => by
  obtain ⟨ns, h, z⟩ := d
  exact a.keep b _ (ne_of e h fun q => nomatch q) e
theorem DL.dr {l : Addr} {H H' : Hp} (a : Dr l H H') : DL H' l := a.dl
theorem Dr.new {l : Addr} {H0 H : Hp} {p : Addr} {o : HO} (a : Dr l H0 H) (h : H p = none) : Dr l H0 (upd H p o) := a.trans (.of_same a.dl (same_new (Same.refl _) h))
/-- a list of ours that was not there, written -/
theorem Dr.put {l : Addr} {H0 H : Hp} {p : Addr} {o : HO} (a : Dr l H0 H) (h : H0 p = none) (n : l ≠ p) : Dr l H0 (upd H p o) := ⟨fun b u nb e => by
  rw [upd_ne (ne_of_none e h)]
  exact a.keep b u nb e, let ⟨ns, e, z⟩ := a.dl; ⟨ns, by rw [upd_ne n]; exact e, z⟩⟩
def sp_law_number : Sp := fun vs H Q _ => ∃ i : Int, vs = [.int i] ∧ Q (.int i.natAbs) H
def sp_law_draws (K : PySem.W.Frag) : Sp := fun vs H Q _ => ∃ (a : Addr) (ns : List Int), vs = [.ref a] ∧ SqL K H a (ns.map V.int) ∧ ns.length ≤ 63 ∧ ∀ (l : Addr) (ds : List Int) (H' : Hp), Same H H' → H l = none → H' l = some (.lst (ds.map V.int)) → ds.length ≤ 4000 → Q (.ref l) H'
def sp_law_next : Sp := fun vs H Q _ => ∃ l : Addr, vs = [.ref l] ∧ DL H l ∧ ∀ (i : Int) H', Dr l H H' → (∀ b, b ≠ l → H' b = H b) → Q (.int i) H'
def sp_law_text : Sp := fun vs H Q _ => ∃ (l : Addr) (k n : Nat), vs = [.ref l, .int k, .int n] ∧ DL H l ∧ 2 ≤ k ∧ k ≤ 3 ∧ n ≤ 8 ∧ ∀ x H', Let k x → x.length ≤ n → Dr l H H' → Q (.str (S x)) H'
def sp_law_walked : Sp := fun vs H Q _ => ∃ (v : V) (M : Mach) (s : Nat) (x : W), vs = [v, .int s, .str (S x)] ∧ MAt H v M ∧ s < M.rows.length ∧ Let M.k x ∧ x.length ≤ 1000 ∧ RetL [sD (walk M s x).1, .int (walk M s x).2] H Q
def sp_law_form : Sp := fun vs H Q _ => ∃ (v : V) (M : Mach) (x : W), vs = [v, .str (S x)] ∧ MAt H v M ∧ Let M.k x ∧ x.length ≤ 1000 ∧ RetS (.str (S (form M x))) H Q
def sp_law_out : Sp := fun vs H Q _ => ∃ (l : Addr) (k j : Nat), vs = [.ref l, .int k, .int j] ∧ DL H l ∧ 2 ≤ k ∧ k ≤ 3 ∧ j < k ∧ ∀ x H', Let k x → x.length ≤ 2 → Dr l H H' → Q (.str (S x)) H'
def sp_law_machine : Sp := fun vs H Q _ => ∃ (l : Addr) (k : Nat), vs = [.ref l, .int k, .int 3] ∧ DL H l ∧ 2 ≤ k ∧ k ≤ 3 ∧ ∀ M v H', Valid M → M.k = k → Dr l H H' → Dat H' v (mD M) → Q v H'
def sp_law_drawn : Sp := fun vs H Q _ => ∃ (l : Addr) (k : Nat), vs = [.ref l, .int k] ∧ DL H l ∧ 2 ≤ k ∧ k ≤ 3 ∧ ∀ M v H', Valid M → M.k = k → Dr l H H' → Dat H' v (mD M) → Q v H'
def sp_law_rest : Sp := fun vs H Q _ => ∃ x y : W, vs = [.str (S x), .str (S y)] ∧ x.length ≤ 1000 ∧ y.length ≤ 1000 ∧ RetV (restD (rest x y)) H Q
def sp_law_moves : Sp := fun vs H Q _ => ∃ (v : V) (M : Mach) (s : Nat), vs = [v, .int s] ∧ MAt H v M ∧ s < M.rows.length ∧ RetL ((moves M s).map fun m => lmD m.2) H Q
def sp_law_order : Sp := fun vs H Q _ => ∃ (v : V) (M : Mach), vs = [v] ∧ Valid M ∧ Dat H v (.tuple (M.rows.map rowD)) ∧ ∀ L : List Nat, (∀ s ∈ L, Reach M s) → L.Nodup → RetL (L.map natD) H Q
def sp_law_starts : Sp := fun vs H Q _ => ∃ (v : V) (M : Mach), vs = [v] ∧ MAt H v M ∧ ∀ L : List Pl, (∀ p ∈ L, ∃ st l1 l2, Reach M st ∧ IsStart M st l1 l2 p) → L.Nodup → RetL (L.map plD) H Q
def sp_law_following : Sp := fun vs H Q _ => ∃ (v : V) (M : Mach) (q : V) (p : Pl), vs = [v, q] ∧ MAt H v M ∧ Dat H q (plD p) ∧ PlOk M p ∧ RetL ((foll M p).map plD) H Q
/-- the words over k letters of up to n letters -/
def ringW (k : Nat) : Nat → List W
  | 0 => [[]]
  | n + 1 => (ringW k n).flatMap fun x => (List.range k).map fun j => x ++ [97 + j]
def wordsW (k : Nat) : Nat → List W
  | 0 => [[]]
  | n + 1 => wordsW k n ++ ringW k (n + 1)
def sp_law_words : Sp := fun vs H Q _ => ∃ k n : Nat, vs = [.int k, .int n] ∧ 2 ≤ k ∧ k ≤ 3 ∧ n ≤ 4 ∧ RetL ((wordsW k n).map sD) H Q
def sp_law_is_closed : Sp := fun vs H Q _ => ∃ (v : V) (M : Mach) (l : Addr) (L : List Pl), vs = [v, .ref l] ∧ MAt H v M ∧ LAt H l L ∧ L.length ≤ 1000 ∧ (∀ p ∈ L, PlOk M p) ∧ ClosedP M L ∧ RetS (.bl true) H Q
def sp_law_met : Sp := fun vs H Q _ => ∃ (v : V) (M : Mach), vs = [v, .int 60] ∧ MAt H v M ∧ ∀ L : List Pl, L.Nodup → (∀ p ∈ L, PlOk M p) → RetL (L.map plD) H Q
def sp_law (K : PySem.W.Frag) : Sp := fun vs H Q _ => ∃ (a : Addr) (ns : List Int), vs = [.ref a] ∧ SqL K H a (ns.map V.int) ∧ ns.length ≤ 63 ∧ ∀ H', Q (.bl true) H'

/-! ### the search -/
structure WdOk (M : Mach) (p : Pl) (q : Wd) : Prop where
  re : Reach M q.1
  le : Leads M q.1 q.2.1 q.2.2 p
  l1 : Let M.k q.2.1
  l2 : Let M.k q.2.2
def sf (m : V) (l a : Addr) (d : V) : List (Str × V) := [("machine", m), ("places", .ref l), ("words", .ref a), ("done", d)]
/-- the search stands at p with its list at l, its dict at a -/
structure SAt (P : Program) (w : World) (C : Addr) (M : Mach) (H : Hp) (p l a dx : Addr) (L : List Pl) (dn : Option Wd) : Prop where
  ex : ∃ (m d : V) (xs : List V) (kvs : List PKV), H p = some (.ins C dx (sf m l a d)) ∧ H l = some (.lst xs) ∧ Dats H xs (L.map plD) ∧ H a = some (DN P w a kvs) ∧ KeysIn H kvs ∧ kvs.map (·.1) = L ∧ MAt H m M ∧
    ((dn = none ∧ d = .non) ∨ ∃ q, dn = some q ∧ Dat H d (wdD q) ∧ WdOk M doneP q ∧ q.2.1.length ≤ L.length ∧ q.2.2.length ≤ L.length) ∧
    ∀ q ∈ kvs, ∃ wd, Dat H q.2.2 (wdD wd) ∧ WdOk M q.1 wd ∧ wd.2.1.length ≤ L.length ∧ wd.2.2.length ≤ L.length
  nd : L.Nodup
  ok : ∀ q ∈ L, PlOk M q
  no : dn = none → doneP ∉ L
/-- all but the search's own -/
def Fr (p l a : Addr) (H H' : Hp) : Prop := ∀ b u, b ≠ p → b ≠ l → b ≠ a → H b = some u → H' b = some u
def sp_S_take (P : Program) (w : World) (C : Addr) : Sp := fun vs H Q _ => ∃ (M : Mach) (p l a dx : Addr) (L : List Pl) (dn : Option Wd) (v z : V) (q : Pl) (wd : Wd), vs = [.ref p, v, z] ∧ SAt P w C M H p l a dx L dn ∧ Dat H v (plD q) ∧ PlOk M q ∧ Dat H z (wdD wd) ∧ WdOk M q wd ∧
  wd.2.1.length ≤ L.length + 1 ∧ wd.2.2.length ≤ L.length + 1 ∧
  ∀ L' dn' H', SAt P w C M H' p l a dx L' dn' → Fr p l a H H' → (L' = L ∨ L' = L ++ [q]) → (dn' = none → dn = none ∧ q ∈ L') → Q .non H'
def sp_S_look (P : Program) (w : World) (C : Addr) : Sp := fun vs H Q _ => ∃ (M : Mach) (p l a dx : Addr) (L : List Pl) (dn : Option Wd), vs = [.ref p] ∧ SAt P w C M H p l a dx L dn ∧
  ∀ L' dn' H', SAt P w C M H' p l a dx L' dn' → Fr p l a H H' → (∀ q ∈ L, q ∈ L') → (dn' = none → dn = none ∧ ∀ q ∈ L', ∀ q' ∈ foll M q, q' ∈ L') → Q .non H'
def sp_S_init (P : Program) (w : World) (K : PySem.W.Frag) (C : Addr) : Sp := fun vs H Q _ => ∃ (M : Mach) (p dx : Addr) (m : V) (H0 : Hp), vs = [.ref p, m] ∧ Same H0 H ∧ H0 p = none ∧ H p = some (.ins C dx []) ∧ MAt H0 m M ∧
  ∀ l a L dn H', H0 l = none → H0 a = none → SAt P w C M H' p l a dx L dn → Same H0 H' → (dn = none → ClosedP M L) → Q .non H'
end K67

/-! K3Help: small steps that many proofs need. -/
namespace K67
open PySem PySem.Spec PyProof.Rows L2

theorem abc_eq : ("abcdef" : Str) = S [97, 98, 99, 100, 101, 102] := by decide +kernel
theorem cut_take (x : W) (k : Nat) : cutS (S x) none (some (k : Int)) = S (x.take k) := by
  unfold cutS
  rw [HT.sIx_none, HT.sIx_nat, S_cps, S_len]
  unfold S
  rw [List.drop_zero, Nat.sub_zero]
  congr 2
  rw [Nat.min_def]
  split
  · rfl
  · rw [List.take_of_length_le (Nat.le_refl _), List.take_of_length_le (by omega)]
theorem cut_drop (x : W) (k : Nat) : cutS (S x) (some (k : Int)) none = S (x.drop k) := by
  unfold cutS
  rw [HT.sIx_none, HT.sIx_nat, S_cps, S_len]
  unfold S
  congr 2
  rw [Nat.min_def]
  split
  · rw [List.take_of_length_le (by rw [List.length_drop]; exact Nat.le_refl _)]
  · rw [List.drop_of_length_le (by omega), List.drop_of_length_le (by omega)]
    simp
theorem in_letters {k c : Nat} (hk : k ≤ 3) (h : 97 ≤ c ∧ c < 97 + k) : c ∈ List.take k [97, 98, 99, 100, 101, 102] := by
  have h1 : k = 0 ∨ k = 1 ∨ k = 2 ∨ k = 3 := by omega
  have h2 : c = 97 ∨ c = 98 ∨ c = 99 := by omega
  rcases h1 with rfl | rfl | rfl | rfl <;> rcases h2 with rfl | rfl | rfl <;> first | omega | decide
theorem S_get (x : W) (i : Nat) : (S x).cps[i]? = x[i]? := by simp [S]
theorem S_size (x : W) : (S x).cps.size = x.length := by simp [S]
theorem line_big {n : Nat} (h : n ≤ 16000000) : n ≤ sizeLine := by rw [sizeLine_eq]; omega
theorem line_lt {n : Nat} (h : n ≤ 16000000) : n < sizeLine := by rw [sizeLine_eq]; omega
theorem ifT {c : Bool} {A B : Prop} (h : c = true) (a : A) : if c = true then A else B := by rw [if_pos h]; exact a
theorem ifF {c : Bool} {A B : Prop} (h : c = false) (b : B) : if c = true then A else B := by rw [h]; exact b
theorem ifB {c : Bool} {A B : Prop} (a : c = true → A) (b : c = false → B) : if c = true then A else B := by
  cases c with
  | true => exact a rfl
  | false => exact b rfl
theorem S_ne_nil {x : W} : (V.str (S x) = V.str ("" : Str)) ↔ x = [] := by
  rw [← S_nil]
  constructor
  · intro h
    exact S_inj (V.str.inj h)
  · rintro rfl
    rfl
theorem S_eq_V {x y : W} : (V.str (S x) = V.str (S y)) ↔ x = y := ⟨fun h => S_inj (V.str.inj h), fun h => by rw [h]⟩

/-! ### a list made by a comprehension -/
def LcP (R : List V → Hp → Prop) (H1 : Hp) (D : Addr) (i : Nat) (H : Hp) : Prop := ∃ acc, Same H1 H ∧ H D = some (.lst acc) ∧ acc.length = i ∧ R acc H
section
variable {R : List V → Hp → Prop} {H1 H H4 : Hp} {D : Addr} {i : Nat} {acc : List V} {y : V}
theorem lcp_zero (h : H1 D = none) (r : R [] (upd H1 D (.lst []))) : LcP R H1 D 0 (upd H1 D (.lst [])) := ⟨[], same_new (Same.refl _) h, upd_same, rfl, r⟩
theorem lcp_step (h : H1 D = none) (s : Same H1 H4) (hD : H4 D = some (.lst acc)) (hl : acc.length = i) (hi : i ≤ 1000000) (r : R (acc ++ [y]) (upd H4 D (.lst (acc ++ [y])))) :
    ∃ acc, H4 D = some (.lst acc) ∧ acc.length < sizeLine ∧ LcP R H1 D (i + 1) (upd H4 D (.lst (acc ++ [y]))) :=
  ⟨acc, hD, by rw [hl]; exact line_lt (by omega), acc ++ [y], same_set s h, upd_same, by rw [List.length_append, hl]; rfl, r⟩
end
/-- all true -/
def AllT (acc : List V) (_ : Hp) : Prop := acc = (List.replicate acc.length true).map V.bl
theorem allT_nil {H : Hp} : AllT [] H := rfl
theorem allT_snoc {acc : List V} {H H' : Hp} (h : AllT acc H) : AllT (acc ++ [.bl true]) H' := by
  unfold AllT at h ⊢
  rw [List.length_append, List.length_singleton, List.replicate_succ', List.map_append, ← h]
  rfl
theorem allT_all (n : Nat) : (List.replicate n true).all id = true := by
  induction n with
  | zero => rfl
  | succ n ih => rw [List.replicate_succ, List.all_cons, ih]; rfl
theorem allT_end {K : PySem.W.Frag} {acc : List V} {H : Hp} {D : Addr} {Q : VK} (h : AllT acc H) (hD : H D = some (.lst acc)) (q : Q (.bl true) H) : rAll K [.ref D] H Q :=
  ⟨D, List.replicate acc.length true, rfl, .of (by rw [← h]; exact hD), by rw [allT_all]; exact q⟩
theorem yes {te : TE} {σ : L2.St} {H : Hp} {N1 : V → Hp → Prop} {N2 : Hp → Prop} (h : te σ H N1) : tYes σ H fun b H3 => if b = true then te σ H3 N1 else N2 H3 := by
  show if true = true then te σ H N1 else N2 H
  rw [if_pos rfl]
  exact h
/-! ### rules whose frag is named -/
section
variable {X : Cx} {K : PySem.W.Frag}
theorem call_lenK (h : X.K = K) : CallR X (.builtin "len") (fun xs H Q => ∃ x n, xs = [x] ∧ LenV K x H n ∧ Q (.int n) H) := by subst h; exact call_len
theorem pg_tupK {es : List Expr} {k : Nat} {t : TGs} {n : Nat} {pos : Pos} (hK : X.K = K) (hc : X.calm = true) (h : PGs X es t)
    (hn : (assignEach es X.env).length = n := by rfl) (hst : (assignEach es X.env).findIdx? (·.1) = none := by rfl) : PG X (.Tuple es k pos) (gTup K n t) := by subst hK; exact pg_tup hc h hn hst
theorem ix_tupK (h : X.K = K) : IxR X (rIxT K) := by subst h; exact ix_tup
theorem ix_listK (h : X.K = K) : IxR X (rIxL K) := by subst h; exact ix_list
theorem op_inNK {P : Program} {w : World} (h : X.prog = P) (h2 : X.w = w) (hu : X.A.units + 20 < cLine) : OpR X (compareOp .In) (rInN P w) := by subst h h2; exact op_inN hu
theorem op_eqDK (h : X.K = K) (hu : X.A.units + 64 < cLine) : OpR X (compareOp .Eq) (rEqD K) := by subst h; exact op_eqD hu
theorem op_neDK (h : X.K = K) (hu : X.A.units + 64 < cLine) : OpR X (compareOp .NotEq) (rNeD K) := by subst h; exact op_neD hu
theorem op_inDK (h : X.K = K) (hu : X.A.units + 65 < cLine) : OpR X (compareOp .In) (rInD K) := by subst h; exact op_inD hu
theorem mt_countDK (h : X.K = K) (hu : X.A.units + 65 < cLine) : MtR X "list.count" (rCntD K) := by subst h; exact mt_countD hu
end
theorem dats_ts {H H' : Hp} {vs : List V} {ds : List PyData} (h : Dats H vs ds) {D : Addr} {xs : List V} {o : HO} (e : H D = some (.lst xs)) (s : H' = upd H D o) : Dats H' vs ds := by
  rw [s]
  exact h.to (ts_lst e)
end K67

/-! K4a: the checks of words and machines. -/
namespace K67
open PySem PySem.Spec PyProof.Rows L2
section
variable {P : Program} {w : World} {K : PySem.W.Frag} {mg : Str → Option Value} {base : Heap}
theorem ok_check_size (T : Tx K mg) : FnOk P w K mg base CX0 1 T.f_check_size T.d_check_size ["k"] (sp_check_size) := by
  obtain ⟨tLET, gLET⟩ := T.LETTERS
  refine T.F_check_size.ok sc_check_size (fun vs H Q E h => ?_) (fun cdv A outer s H vs Q E hr h => ?_)
  · obtain ⟨k, rfl, _⟩ := h
    rfl
  · obtain ⟨k, rfl, h2, h3, q⟩ := h
    refine ⟨_, PSs.nox (pss_one (ps_if (pt_not (pt_chain op_le op_le pe_int (pv 0) (pe_callB call_len rfl T.n_len boot_len (pa_cons (pe_glob (v := .str "abcdef") rfl gLET ⟨tLET, rfl⟩) pa_nil)))) pss_never pss_nil)), ?_⟩
    refine ⟨_, rfl, 2, _, rfl, rfl, _, rfl, ifT (decide_eq_true (by omega)) ⟨_, 6, rfl, ⟨line_big (by decide), by decide⟩, _, _, rfl, rfl, _, rfl, ?_⟩⟩
    exact ifF (by rw [decide_eq_true (by show (k : Int) ≤ 6; omega)]; rfl) (q _ (Same.refl _))
theorem ok_has_letters (T : Tx K mg) : FnOk P w K mg base CX0 1 T.f_has_letters T.d_has_letters ["k", "word"] (sp_has_letters) := by
  obtain ⟨tLET, gLET⟩ := T.LETTERS
  refine T.F_has_letters.ok sc_has_letters (fun vs H Q E h => ?_) (fun cdv A outer s H vs Q E hr h => ?_)
  · obtain ⟨k, x, rfl, _⟩ := h
    rfl
  · obtain ⟨k, x, rfl, hk, hl, hx, q⟩ := h
    refine ⟨_, PSs.nox (pss_one (ps_ret (pe_callB (cr_all rfl) rfl T.n_all boot_all (pa_cons (pe_lc rfl sc_has_letters.nd (pi_str (pv 1)) (blkOk_by (own := [("letter", 2)]) (by rfl)) (fun _ _ _ _ _ => (pg_name (i := 2) sc_has_letters.nd rfl (by first | exact .inl rfl | exact .inr rfl))) (fun _ _ _ _ _ => pts_nil) (fun _ _ _ _ _ => (pe_cmpR op_in_sign (pv 2) (pe_slice sl_str (pe_glob (v := .str "abcdef") rfl gLET ⟨tLET, rfl⟩) po_none (po_some (pv 0))) rfl))) pa_nil)))), ?_⟩
    refine ⟨_, rfl, _, rfl, fun D nD => lc_it walk_str (LcP AllT H D) (lcp_zero nD allT_nil) (fun _ _ _ _ => trivial) (fun i y H2 H' hi ⟨acc, sm, hD, hla, r⟩ hy => ?_) (fun H2 ⟨acc, sm, hD, hla, r⟩ => allT_end r hD (q _ sm))⟩
    rw [S_size] at hi
    obtain ⟨rfl, c, hc, rfl⟩ := hy
    rw [S_get] at hc
    have hcm := hl c (List.mem_of_getElem? hc)
    refine ⟨rfl, yes ⟨_, rfl, _, rfl, _, rfl, _, rfl, line_big (by decide), c, _, rfl, rfl, ?_⟩⟩
    refine lcp_step nD sm hD hla (by omega) ?_
    rw [abc_eq, cut_take, S_cps]
    rw [decide_eq_true (in_letters hk hcm)]
    exact allT_snoc r
theorem ok_is_word (T : Tx K mg) : FnOk P w K mg base CX0 2 T.f_is_word T.d_is_word ["k", "word"] (sp_is_word) := by
  obtain ⟨tMOST_LETTERS, gMOST_LETTERS⟩ := T.MOST_LETTERS
  refine T.F_is_word.ok sc_is_word (fun vs H Q E h => ?_) (fun cdv A outer s H vs Q E hr h => ?_)
  · obtain ⟨k, x, rfl, _⟩ := h
    rfl
  · obtain ⟨k, x, rfl, h2, hk, hl, hx, q⟩ := h
    refine ⟨_, PSs.nox (pss_cons (ps_expr (pe_call (ok_check_size T) (hr.mono (by decide)) rfl T.g_check_size T.F_check_size.kp T.b_check_size .nil pass0 (pa_cons (pv 0) pa_nil))) (pss_one (ps_ret (pe_and (pe_cmpR op_le (pe_callB call_len rfl T.n_len boot_len (pa_cons (pv 1) pa_nil)) (pe_glob (v := .int (60)) rfl gMOST_LETTERS ⟨tMOST_LETTERS, rfl⟩) (nomark _)) (pe_one (pe_call (ok_has_letters T) (hr.mono (by decide)) rfl T.g_has_letters T.F_has_letters.kp T.b_has_letters .nil pass0 (pa_cons (pv 0) (pa_cons (pv 1) pa_nil)))))))), ?_⟩
    refine ⟨_, rfl, k, rfl, h2, hk, fun H1 s1 => ?_⟩
    refine ⟨_, rfl, _, x.length, rfl, ⟨line_big (by rw [S_len]; omega), by rw [S_len]⟩, _, 60, rfl, rfl, _, rfl, ?_⟩
    refine ifT (decide_eq_true (by omega)) ⟨_, rfl, _, rfl, k, x, rfl, hk, hl, by omega, fun H2 s2 => q H2 (s1.trans s2)⟩
theorem ok_check_word (T : Tx K mg) : FnOk P w K mg base CX0 3 T.f_check_word T.d_check_word ["k", "word"] (sp_check_word) := by
  refine T.F_check_word.ok sc_check_word (fun vs H Q E h => ?_) (fun cdv A outer s H vs Q E hr h => ?_)
  · obtain ⟨k, x, rfl, _⟩ := h
    rfl
  · obtain ⟨k, x, rfl, h2, hk, hl, hx, q⟩ := h
    refine ⟨_, PSs.nox (pss_one (ps_if (pt_not (pt_truth (pe_call (ok_is_word T) (hr.mono (by decide)) rfl T.g_is_word T.F_is_word.kp T.b_is_word .nil pass0 (pa_cons (pv 0) (pa_cons (pv 1) pa_nil))) (fun _ => rfl))) pss_never pss_nil)), ?_⟩
    refine ⟨_, rfl, _, rfl, k, x, rfl, h2, hk, hl, hx, fun H1 s1 => ⟨true, rfl, ?_⟩⟩
    exact ifF rfl (q _ s1)
theorem ok_key_of (T : Tx K mg) : FnOk P w K mg base CX0 1 T.f_key_of T.d_key_of ["word"] (sp_key_of) := by
  refine T.F_key_of.ok sc_key_of (fun vs H Q E h => ?_) (fun cdv A outer s H vs Q E hr h => ?_)
  · obtain ⟨x, rfl, _⟩ := h
    rfl
  · obtain ⟨x, rfl, hx, q⟩ := h
    refine ⟨_, PSs.nox (pss_one (ps_ret (pe_tup (pa_cons (pe_callB call_len rfl T.n_len boot_len (pa_cons (pv 0) pa_nil)) (pa_cons (pv 0) pa_nil))))), ?_⟩
    refine ⟨_, rfl, _, x.length, rfl, ⟨line_big (by rw [S_len]; omega), by rw [S_len]⟩, _, rfl, ?_⟩
    refine ⟨line_big (by show 2 ≤ 16000000; decide), fun p hp => ?_⟩
    exact q _ _ (same_new (Same.refl _) hp) (.tup upd_same (.cons (.int _) (.cons (.str _) .nil)))
theorem ok_is_string (T : Tx K mg) : FnOk P w K mg base CX0 2 T.f_is_string T.d_is_string ["k", "text"] (sp_is_string) := by
  obtain ⟨tLONGEST, gLONGEST⟩ := T.LONGEST
  refine T.F_is_string.ok sc_is_string (fun vs H Q E h => ?_) (fun cdv A outer s H vs Q E hr h => ?_)
  · obtain ⟨k, x, rfl, _⟩ := h
    rfl
  · obtain ⟨k, x, rfl, hk, hl, hx, q⟩ := h
    refine ⟨_, PSs.nox (pss_one (ps_ret (pe_and (pe_cmpR op_le (pe_callB call_len rfl T.n_len boot_len (pa_cons (pv 1) pa_nil)) (pe_glob (v := .int (60)) rfl gLONGEST ⟨tLONGEST, rfl⟩) (nomark _)) (pe_one (pe_call (ok_has_letters T) (hr.mono (by decide)) rfl T.g_has_letters T.F_has_letters.kp T.b_has_letters .nil pass0 (pa_cons (pv 0) (pa_cons (pv 1) pa_nil))))))), ?_⟩
    refine ⟨_, rfl, _, x.length, rfl, ⟨line_big (by rw [S_len]; omega), by rw [S_len]⟩, _, 60, rfl, rfl, _, rfl, ?_⟩
    exact ifT (decide_eq_true (by omega)) ⟨_, rfl, _, rfl, k, x, rfl, hk, hl, by omega, q⟩
theorem ok_is_row (T : Tx K mg) : FnOk P w K mg base CX0 3 T.f_is_row T.d_is_row ["k", "count", "row"] (sp_is_row) := by
  refine T.F_is_row.ok sc_is_row (fun vs H Q E h => ?_) (fun cdv A outer s H vs Q E hr h => ?_)
  · obtain ⟨k, n, v, r, rfl, _⟩ := h
    rfl
  · obtain ⟨k, n, v, r, rfl, hk, dv, ⟨h1, h2, h3, h4⟩, q⟩ := h
    refine ⟨_, PSs.nox (pss_cons (ps_asg (pv 2) (pg_tup (n := 2) rfl (pgs_cons (pg_name (i := 3) sc_is_row.nd rfl (by first | exact .inl rfl | exact .inr rfl)) (pgs_cons (pg_name (i := 4) sc_is_row.nd rfl (by first | exact .inl rfl | exact .inr rfl)) pgs_nil)))) (pss_cons (ps_if (PW.pt (pw_or (pt_not (pt_truth (pe_call (ok_is_string T) (hr.mono (by decide)) rfl T.g_is_string T.F_is_string.kp T.b_is_string .nil pass0 (pa_cons (pv 0) (pa_cons (pv 3) pa_nil))) (fun _ => rfl))) (pw_or1 (pt_cmpR op_ne (pe_callB call_len rfl T.n_len boot_len (pa_cons (pv 4) pa_nil)) (pv 0) (nomark _))))) (pss_one (ps_ret pe_bl)) pss_nil) (pss_one (ps_ret (pe_callB (cr_all rfl) rfl T.n_all boot_all (pa_cons (pe_lc rfl sc_is_row.nd (pi_tup (pv 4)) (blkOk_by (own := [("out", 5), ("following", 6)]) (by rfl)) (fun _ _ _ _ _ => (pg_tupK (K := K) (n := 2) rfl rfl (pgs_cons (pg_name (i := 5) sc_is_row.nd rfl (by first | exact .inl rfl | exact .inr rfl)) (pgs_cons (pg_name (i := 6) sc_is_row.nd rfl (by first | exact .inl rfl | exact .inr rfl)) pgs_nil)))) (fun _ _ _ _ _ => pts_nil) (fun _ _ _ _ _ => (pe_and (pe_call (ok_is_string T) (hr.mono (by decide)) rfl T.g_is_string T.F_is_string.kp T.b_is_string .nil pass0 (pa_cons (pv 0) (pa_cons (pv 5) pa_nil))) (pe_one (pe_chain op_le op_lt pe_int (pv 6) (pv 1)))))) pa_nil)))))), ?_⟩
    obtain ⟨a, e, es, rfl, ha, he, hd⟩ := row_inv dv
    have le : es.length = k := by rw [hd.length, List.length_map, h3]
    refine ⟨_, rfl, a, _, rfl, .of ha, rfl, _, _, rfl, _, _, rfl, rfl, ?_⟩
    refine ⟨_, rfl, _, rfl, k, r.1, rfl, hk, h1, by omega, fun H1 s1 => ⟨true, rfl, ?_⟩⟩
    refine ifF rfl ⟨_, rfl, _, k, rfl, .inr ⟨es, .of (s1 _ _ he), le.symm⟩, _, rfl, rfl, _, rfl, ?_⟩
    refine ifF (by rw [decide_eq_true rfl]; rfl) ?_
    refine ⟨_, rfl, e, rfl, ⟨es, .of (s1 _ _ he)⟩, fun D nD => lc_it (walk_tup (xs := es)) (LcP AllT H1 D) (lcp_zero nD allT_nil) (fun i H2 _ ⟨acc, sm, _⟩ => .of (sm _ _ (s1 _ _ he))) (fun i y H2 H' hi ⟨acc, sm, hD, hla, ra⟩ hy => ?_) (fun H2 ⟨acc, sm, hD, hla, ra⟩ => allT_end ra hD (q _ (s1.trans sm)))⟩
    obtain ⟨rfl, hy⟩ := hy
    obtain ⟨d, gd, dd⟩ := hd.at hy
    rw [List.getElem?_map] at gd
    obtain ⟨ee, ge, rfl⟩ := Option.map_eq_some_iff.mp gd
    obtain ⟨ae, rfl, hae⟩ := en_inv dd
    have hae2 := sm _ _ (s1 _ _ hae)
    obtain ⟨q1, q2, q3⟩ := h4 ee (List.mem_of_getElem? ge)
    refine ⟨ae, _, rfl, .of hae2, rfl, _, _, rfl, _, _, rfl, rfl, rfl, yes ?_⟩
    refine ⟨_, rfl, _, rfl, k, ee.1, rfl, hk, q1, by omega, fun H3 s3 => ⟨true, rfl, ifT rfl ?_⟩⟩
    refine ⟨_, rfl, 0, _, rfl, rfl, _, rfl, ifT (decide_eq_true (by omega)) ⟨_, rfl, _, _, rfl, rfl, ?_⟩⟩
    dsimp only
    rw [decide_eq_true (by omega : (ee.2 : Int) < n)]
    exact lcp_step nD (sm.trans s3) (s3 _ _ hD) hla (by omega) (allT_snoc ra)
theorem ok_is_formed (T : Tx K mg) : FnOk P w K mg base CX0 4 T.f_is_formed T.d_is_formed ["machine", "most"] (sp_is_formed) := by
  refine T.F_is_formed.ok sc_is_formed (fun vs H Q E h => ?_) (fun cdv A outer s H vs Q E hr h => ?_)
  · obtain ⟨v, n, M, rfl, _⟩ := h
    rfl
  · obtain ⟨v, n, M, rfl, hn, ⟨V, dv⟩, q⟩ := h
    refine ⟨_, PSs.nox (pss_cons (ps_asg (pv 0) (pg_tup (n := 3) rfl (pgs_cons (pg_name (i := 2) sc_is_formed.nd rfl (by first | exact .inl rfl | exact .inr rfl)) (pgs_cons (pg_name (i := 3) sc_is_formed.nd rfl (by first | exact .inl rfl | exact .inr rfl)) (pgs_cons (pg_name (i := 4) sc_is_formed.nd rfl (by first | exact .inl rfl | exact .inr rfl)) pgs_nil))))) (pss_cons (ps_if (PW.pt (pw_or (pt_not (pt_chain op_le op_le pe_int (pv 2) pe_int)) (pw_or (pt_not (pt_chain op_le op_le pe_int (pe_callB call_len rfl T.n_len boot_len (pa_cons (pv 4) pa_nil)) (pv 1))) (pw_or1 (pt_not (pt_truth (pe_call (ok_is_string T) (hr.mono (by decide)) rfl T.g_is_string T.F_is_string.kp T.b_is_string .nil pass0 (pa_cons (pv 2) (pa_cons (pv 3) pa_nil))) (fun _ => rfl))))))) (pss_one (ps_ret pe_bl)) pss_nil) (pss_one (ps_ret (pe_callB (cr_all rfl) rfl T.n_all boot_all (pa_cons (pe_lc rfl sc_is_formed.nd (pi_tup (pv 4)) (blkOk_by (own := [("row", 5)]) (by rfl)) (fun _ _ _ _ _ => (pg_name (i := 5) sc_is_formed.nd rfl (by first | exact .inl rfl | exact .inr rfl))) (fun _ _ _ _ _ => pts_nil) (fun _ _ _ _ _ => (pe_call (ok_is_row T) (hr.mono (by decide)) rfl T.g_is_row T.F_is_row.kp T.b_is_row .nil pass0 (pa_cons (pv 2) (pa_cons (pe_callB (call_lenK (K := K) rfl) rfl T.n_len boot_len (pa_cons (pv 4) pa_nil)) (pa_cons (pv 5) pa_nil)))))) pa_nil)))))), ?_⟩
    obtain ⟨a, r, rs, rfl, ha, hr2, hd⟩ := mach_inv dv
    have lr : rs.length = M.rows.length := by rw [hd.length, List.length_map]
    have hk3 := V.k3
    have hk2 := V.k2
    have h1 := V.n1
    have h3 := V.n3
    refine ⟨_, rfl, a, _, rfl, .of ha, rfl, _, _, rfl, _, _, rfl, _, _, rfl, rfl, ?_⟩
    refine ⟨_, rfl, 2, _, rfl, rfl, _, rfl, ifT (decide_eq_true (by omega)) ⟨_, _, rfl, rfl, _, rfl, ?_⟩⟩
    refine ifF (by rw [decide_eq_true (by omega : (M.k : Int) ≤ 6)]; rfl) ?_
    refine ⟨_, rfl, _, M.rows.length, rfl, .inr ⟨rs, .of hr2, lr.symm⟩, 1, _, rfl, rfl, _, rfl, ifT (decide_eq_true (by omega)) ⟨_, rfl, _, _, rfl, rfl, _, rfl, ?_⟩⟩
    refine ifF (by rw [decide_eq_true (by omega : (M.rows.length : Int) ≤ n)]; rfl) ?_
    refine ⟨_, rfl, _, rfl, M.k, M.first, rfl, hk3, V.fstL, by have := V.fst2; omega, fun H1 s1 => ⟨true, rfl, ifF rfl ?_⟩⟩
    refine ⟨_, rfl, r, rfl, ⟨rs, .of (s1 _ _ hr2)⟩, fun D nD => lc_it (walk_tup (xs := rs)) (LcP AllT H1 D) (lcp_zero nD allT_nil) (fun i H2 _ ⟨acc, sm, _⟩ => .of (sm _ _ (s1 _ _ hr2))) (fun i y H2 H' hi ⟨acc, sm, hD, hla, ra⟩ hy => ?_) (fun H2 ⟨acc, sm, hD, hla, ra⟩ => allT_end ra hD (q _ (s1.trans sm)))⟩
    obtain ⟨rfl, hy⟩ := hy
    obtain ⟨d, gd, dd⟩ := hd.at hy
    rw [List.getElem?_map] at gd
    obtain ⟨rr, gr, rfl⟩ := Option.map_eq_some_iff.mp gd
    refine ⟨rfl, yes ⟨_, rfl, _, rfl, _, M.rows.length, rfl, .inr ⟨rs, .of (sm _ _ (s1 _ _ hr2)), lr.symm⟩, _, rfl, M.k, M.rows.length, y, rr, rfl, hk3, (dd.same s1).same sm, V.row rr (List.mem_of_getElem? gr), fun H3 s3 => ?_⟩⟩
    exact lcp_step nD (sm.trans s3) (s3 _ _ hD) hla (by omega) (allT_snoc ra)
theorem ok_is_wide (T : Tx K mg) : FnOk P w K mg base CX0 5 T.f_is_wide T.d_is_wide ["machine"] (sp_is_wide) := by
  obtain ⟨tMOST_WIDE, gMOST_WIDE⟩ := T.MOST_WIDE
  refine T.F_is_wide.ok sc_is_wide (fun vs H Q E h => ?_) (fun cdv A outer s H vs Q E hr h => ?_)
  · obtain ⟨v, M, rfl, _⟩ := h
    rfl
  · obtain ⟨v, M, rfl, m, q⟩ := h
    refine ⟨_, PSs.nox (pss_one (ps_ret (pe_call (ok_is_formed T) (hr.mono (by decide)) rfl T.g_is_formed T.F_is_formed.kp T.b_is_formed .nil pass0 (pa_cons (pv 0) (pa_cons (pe_glob (v := .int (2000)) rfl gMOST_WIDE ⟨tMOST_WIDE, rfl⟩) pa_nil))))), ?_⟩
    exact ⟨_, rfl, _, _, M, rfl, by decide, m, q⟩
theorem ok_check_wide (T : Tx K mg) : FnOk P w K mg base CX0 6 T.f_check_wide T.d_check_wide ["machine"] (sp_check_wide) := by
  refine T.F_check_wide.ok sc_check_wide (fun vs H Q E h => ?_) (fun cdv A outer s H vs Q E hr h => ?_)
  · obtain ⟨v, M, rfl, _⟩ := h
    rfl
  · obtain ⟨v, M, rfl, m, q⟩ := h
    refine ⟨_, PSs.nox (pss_one (ps_if (pt_not (pt_truth (pe_call (ok_is_wide T) (hr.mono (by decide)) rfl T.g_is_wide T.F_is_wide.kp T.b_is_wide .nil pass0 (pa_cons (pv 0) pa_nil)) (fun _ => rfl))) pss_never pss_nil)), ?_⟩
    exact ⟨_, rfl, _, M, rfl, m, fun H1 s1 => ⟨true, rfl, ifF rfl (q _ s1)⟩⟩
end
end K67


/-! K1Com: the common beginning, what is left, joined texts, letters' places. -/
namespace K67
open PySem PySem.Spec PyProof.Rows L2
theorem com_le : ∀ x y : W, (com x y).length ≤ x.length ∧ (com x y).length ≤ y.length
  | [], y => ⟨Nat.zero_le _, Nat.zero_le _⟩
  | a :: x, [] => ⟨Nat.zero_le _, Nat.zero_le _⟩
  | a :: x, b :: y => by
    unfold com
    split
    · have := com_le x y
      simp
      omega
    · simp
theorem com_take : ∀ x y : W, com x y = x.take (com x y).length
  | [], y => rfl
  | a :: x, [] => rfl
  | a :: x, b :: y => by
    unfold com
    split
    · rw [List.length_cons, List.take_succ_cons, ← com_take x y]
    · rfl
theorem com_eq : ∀ (x y : W) (j : Nat), j < (com x y).length → x[j]? = y[j]?
  | [], y, j, h => by cases h
  | a :: x, [], j, h => by cases h
  | a :: x, b :: y, j, h => by
    unfold com at h
    split at h
    · rename_i e
      subst e
      cases j with
      | zero => rfl
      | succ j =>
        rw [List.getElem?_cons_succ, List.getElem?_cons_succ]
        exact com_eq x y j (by simpa using h)
    · cases h
theorem com_ne : ∀ (x y : W), (com x y).length < x.length → (com x y).length < y.length → x[(com x y).length]? ≠ y[(com x y).length]?
  | [], y, h, _ => by simp at h
  | a :: x, [], _, h => by simp at h
  | a :: x, b :: y, h, h2 => by
    unfold com at h h2 ⊢
    by_cases e : a = b
    · rw [if_pos e] at h h2 ⊢
      rw [List.length_cons] at h h2 ⊢
      rw [List.getElem?_cons_succ, List.getElem?_cons_succ]
      exact com_ne x y (by simpa using h) (by simpa using h2)
    · rw [if_neg e]
      simp [e]
theorem rest_com : ∀ (x y : W), rest x y = if (com x y).length < x.length ∧ (com x y).length < y.length then none else some (x.drop (com x y).length, y.drop (com x y).length)
  | [], y => by
    rw [if_neg (by simp)]
    rfl
  | a :: x, [] => by
    rw [if_neg (by simp)]
    rfl
  | a :: x, b :: y => by
    unfold rest com
    by_cases e : a = b
    · rw [if_pos e, if_pos e, rest_com x y]
      simp
    · rw [if_neg e, if_neg e]
      simp
/-- where the two words agree up to i, and i is the end -/
theorem com_at {x y : W} {i : Nat} (hi : i ≤ x.length ∧ i ≤ y.length) (he : ∀ j, j < i → x[j]? = y[j]?) (hn : i < x.length → i < y.length → x[i]? ≠ y[i]?) : (com x y).length = i := by
  obtain ⟨l1, l2⟩ := com_le x y
  rcases Nat.lt_trichotomy (com x y).length i with h | h | h
  · exact absurd (he _ h) (com_ne x y (by omega) (by omega))
  · exact h
  · exact absurd (com_eq x y i h) (hn (by omega) (by omega))
theorem join_S (l : List W) : Txt.join ("" : Str) (l.map S) = S l.flatten := by
  have h := eq_of_beq (PyProof.Rows.join_plain_closes ("" : Str) (l.map S))
  rw [h]
  clear h
  induction l with
  | nil => exact S_nil.symm
  | cons x l ih =>
    cases l with
    | nil =>
      show S x = S (x ++ [])
      rw [List.append_nil]
    | cons y l =>
      show S x ++ ("" : Str) ++ Str.join ("" : Str) (S y :: l.map S) = _
      rw [show Str.join ("" : Str) (S y :: l.map S) = S (y :: l).flatten from ih, ← S_nil, S_app, S_app, List.append_nil]
      rfl
theorem sum_len (l : List W) : ((l.map S).map (·.length)).sum = l.flatten.length := by
  induction l with
  | nil => rfl
  | cons x l ih => rw [List.map_cons, List.map_cons, List.sum_cons, ih, S_len, List.flatten_cons, List.length_append]
theorem occ_letter {k c : Nat} (hk : k ≤ 3) (h : 97 ≤ c ∧ c < 97 + k) : Builtin.Str.occurrences ("abcdef" : Str) ⟨#[c]⟩ 0 ("abcdef" : Str).length 1 = [c - 97] := by
  have h2 : c = 97 ∨ c = 98 ∨ c = 99 := by omega
  rcases h2 with rfl | rfl | rfl <;> decide +kernel
theorem letter_at {j : Nat} (h : j < 3) : atI ("abcdef" : Str).cps.toList (j : Int) = some (97 + j) := by
  have h2 : j = 0 ∨ j = 1 ∨ j = 2 := by omega
  rcases h2 with rfl | rfl | rfl <;> decide +kernel
theorem room65 {k : Nat} {A : Around} (r : Room k A) : A.units + 65 < cLine := by have := r.un; omega
theorem room20 {k : Nat} {A : Around} (r : Room k A) : A.units + 20 < cLine := by have := r.un; omega
theorem room1 {k : Nat} {A : Around} (r : Room k A) : A.units + 1 < cLine := by have := r.un; omega
/-! ### data that are laid out -/
theorem strOk_S {x : W} {k : Nat} (hk : k ≤ 3) (h : Let k x) : PyData.strOk (S x) = true := by
  unfold PyData.strOk S
  rw [Array.all_eq_true]
  intro i hi
  have hm : x[i]? = some (x.toArray[i]) := by
    rw [← List.getElem?_toArray]
    exact Array.getElem?_eq_getElem hi
  have h2 := h _ (List.mem_of_getElem? hm)
  have h3 : x.toArray[i] < 0x110000 := by omega
  exact decide_eq_true h3
theorem lay_pl {M : Mach} (V : Valid M) {p : Pl} (h : PlOk M p) : (plD p).canLay0 = true := by
  have hk := V.k3
  unfold plD sD
  simp only [PyData.canLay0, PyData.canLayAll0, strOk_S hk h.lx, strOk_S hk h.ly]
  rfl
theorem depth_pl (p : Pl) : (plD p).depth = 2 := by simp [plD, sD, PyData.depth, PyData.depthAll]
theorem shaped_pl {M : Mach} (V : Valid M) {p : Pl} (h : PlOk M p) : SeqAt.shaped (plD p) = true := by
  unfold SeqAt.shaped
  rw [lay_pl V h, depth_pl]
  rfl
theorem shaped_pls {M : Mach} (V : Valid M) {L : List Pl} (h : ∀ p ∈ L, PlOk M p) : SeqAt.shaped (.list (L.map plD)) = true := by
  have h1 : PyData.canLayAll0 (L.map plD) = true ∧ PyData.depthAll (L.map plD) ≤ 2 := by
    induction L with
    | nil => exact ⟨by simp [PyData.canLayAll0], by simp [PyData.depthAll]⟩
    | cons p L ih =>
      obtain ⟨i1, i2⟩ := ih fun q hq => h q (List.mem_cons_of_mem _ hq)
      constructor
      · simp [PyData.canLayAll0, lay_pl V (h p List.mem_cons_self), i1]
      · simp only [List.map_cons, PyData.depthAll, depth_pl]
        omega
  unfold SeqAt.shaped
  simp only [PyData.canLay0, PyData.depth, h1.1, Bool.true_and]
  exact decide_eq_true (by have := h1.2; omega)
theorem shaped_done : SeqAt.shaped (plD doneP) = true := by decide +kernel
theorem any_pl (L : List Pl) (p : Pl) : ((L.map plD).any fun z => PyData.eqv z (plD p)) = decide (p ∈ L) := by
  rw [List.any_map, Bool.eq_iff_iff, List.any_eq_true, decide_eq_true_iff]
  constructor
  · rintro ⟨q, hq, e⟩
    have e : PyData.eqv (plD q) (plD p) = true := e
    rw [eqv_pl] at e
    have e := of_decide_eq_true e
    subst e
    exact hq
  · intro hp
    refine ⟨p, hp, ?_⟩
    show PyData.eqv (plD p) (plD p) = true
    rw [eqv_pl]
    exact decide_eq_true rfl
theorem count_pl (L : List Pl) (p : Pl) : ((L.map plD).countP fun z => PyData.eqv z (plD p)) = L.countP fun q => decide (q = p) := by
  rw [List.countP_map]
  refine List.countP_congr fun q _ => ?_
  show PyData.eqv (plD q) (plD p) = true ↔ _
  rw [eqv_pl]
end K67

/-! K4b: words' beginnings, walking, moves. -/
namespace K67
open PySem PySem.Spec PyProof.Rows L2
section
variable {P : Program} {w : World} {K : PySem.W.Frag} {mg : Str → Option Value} {base : Heap}
theorem ok_common (T : Tx K mg) : FnOk P w K mg base CX0 1 T.f_common T.d_common ["one", "other"] (sp_common) := by
  refine T.F_common.ok sc_common (fun vs H Q E h => ?_) (fun cdv A outer s H vs Q E hr h => ?_)
  · obtain ⟨x, y, rfl, _⟩ := h
    rfl
  · obtain ⟨x, y, rfl, hx, hy, q⟩ := h
    refine ⟨_, PSs.nox (pss_cons (ps_set (i := 2) sc_common.nd rfl (by first | exact .inl rfl | exact .inr rfl) pe_int) (pss_cons (ps_while PassesOwn.never (PW.pt (pw_and (pt_cmpR op_lt (pv 2) (pe_callB (call_min2 rfl) rfl T.n_min boot_min (pa_cons (pe_callB call_len rfl T.n_len boot_len (pa_cons (pv 0) pa_nil)) (pa_cons (pe_callB call_len rfl T.n_len boot_len (pa_cons (pv 1) pa_nil)) pa_nil))) (nomark _)) (pw_and1 (pt_cmpR op_eq (pe_ix ix_str (pv 0) (pv 2) (fun _ _ => rfl)) (pe_ix ix_str (pv 1) (pv 2) (fun _ _ => rfl)) (nomark _))))) (pss_one (ps_aug (i := 2) sc_common.nd rfl (by first | exact .inl rfl | exact .inr rfl) pe_int ip_add))) (pss_one (ps_ret (pe_slice sl_str (pv 0) po_none (po_some (pv 2))))))), ?_⟩
    refine ⟨fun m σ H' => H' = H ∧ ∃ i, m = x.length - i ∧ i ≤ x.length ∧ i ≤ y.length ∧ (∀ j, j < i → x[j]? = y[j]?) ∧ σ = [some (.str (S x)), some (.str (S y)), some (.int (i : Nat))], ⟨_, rfl, 0, rfl, Nat.zero_le _, Nat.zero_le _, fun j h => by omega, rfl⟩, ?_⟩
    rintro m σ H' ⟨rfl, i, rfl, h1, h2, he, rfl⟩
    have fin : (com x y).length = i → tRet (tSl rSlS (tVar 0) tNoPart (tPart (tVar 2))) { nx := fun _ H' => Q .non H', rt := Q } [some (.str (S x)), some (.str (S y)), some (.int (i : Nat))] H' := fun e => by
      refine ⟨_, rfl, _, rfl, _, rfl, _, rfl, line_big (by rw [S_len]; omega), ?_⟩
      rw [cut_take, ← e, ← com_take]
      exact q
    refine ⟨_, rfl, _, rfl, _, x.length, rfl, ⟨line_big (by rw [S_len]; omega), by rw [S_len]⟩, _, rfl, _, y.length, rfl, ⟨line_big (by rw [S_len]; omega), by rw [S_len]⟩, _, _, rfl, _, _, rfl, rfl, _, rfl, ?_⟩
    refine ifB (fun c => ?_) (fun c => ifF rfl (fin (com_at ⟨h1, h2⟩ he fun a b => ?_)))
    · have c := of_decide_eq_true c
      have l1 : i < x.length := by split at c <;> omega
      have l2 : i < y.length := by split at c <;> omega
      refine ⟨_, rfl, _, rfl, S x, i, _, rfl, rfl, line_big (by rw [S_len]; omega), by rw [S_cps]; exact atI_nat (List.getElem?_eq_getElem l1), _, rfl, _, rfl, S y, i, _, rfl, rfl, line_big (by rw [S_len]; omega), by rw [S_cps]; exact atI_nat (List.getElem?_eq_getElem l2), rfl, _, rfl, ?_⟩
      refine ifB (fun d => ?_) (fun d => fin (com_at ⟨h1, h2⟩ he fun a b => ?_))
      · have d : x[i] = y[i] := by simpa using V.str.inj (of_decide_eq_true d)
        refine ⟨fun σ' H'' => H'' = H' ∧ σ' = [some (.str (S x)), some (.str (S y)), some (.int ((i + 1 : Nat) : Int))], fun σ' H'' ⟨e1, e2⟩ => ⟨x.length - (i + 1), by omega, e1, i + 1, rfl, l1, l2, fun j hj => ?_, e2⟩, ?_⟩
        · rcases Nat.lt_succ_iff_lt_or_eq.mp hj with hj | rfl
          · exact he j hj
          · rw [List.getElem?_eq_getElem l1, List.getElem?_eq_getElem l2, d]
        · exact ⟨_, rfl, _, _, rfl, rfl, rfl, rfl⟩
      · rw [List.getElem?_eq_getElem l1, List.getElem?_eq_getElem l2]
        intro z
        have z := Option.some.inj z
        exact absurd (of_decide_eq_false d) (by rw [z]; simp)
    · have c := of_decide_eq_false c
      split at c <;> omega
theorem ok_rest_of (T : Tx K mg) : FnOk P w K mg base CX0 2 T.f_rest_of T.d_rest_of ["x", "y"] (sp_rest_of) := by
  refine T.F_rest_of.ok sc_rest_of (fun vs H Q E h => ?_) (fun cdv A outer s H vs Q E hr h => ?_)
  · obtain ⟨x, y, rfl, _⟩ := h
    rfl
  · obtain ⟨x, y, rfl, hx, hy, q⟩ := h
    refine ⟨_, PSs.nox (pss_cons (ps_set (i := 2) sc_rest_of.nd rfl (by first | exact .inl rfl | exact .inr rfl) (pe_callB call_len rfl T.n_len boot_len (pa_cons (pe_call (ok_common T) (hr.mono (by decide)) rfl T.g_common T.F_common.kp T.b_common .nil pass0 (pa_cons (pv 0) (pa_cons (pv 1) pa_nil))) pa_nil))) (pss_cons (ps_if (pt_cmpR op_lt (pv 2) (pe_callB (call_min2 rfl) rfl T.n_min boot_min (pa_cons (pe_callB call_len rfl T.n_len boot_len (pa_cons (pv 0) pa_nil)) (pa_cons (pe_callB call_len rfl T.n_len boot_len (pa_cons (pv 1) pa_nil)) pa_nil))) (nomark _)) (pss_one (ps_ret pe_non)) pss_nil) (pss_one (ps_ret (pe_tup (pa_cons (pe_slice sl_str (pv 0) (po_some (pv 2)) po_none) (pa_cons (pe_slice sl_str (pv 1) (po_some (pv 2)) po_none) pa_nil))))))), ?_⟩
    obtain ⟨l1, l2⟩ := com_le x y
    refine ⟨_, rfl, _, rfl, x, y, rfl, hx, hy, _, (com x y).length, rfl, ⟨line_big (by rw [S_len]; omega), by rw [S_len]⟩, ?_⟩
    refine ⟨_, rfl, _, rfl, _, x.length, rfl, ⟨line_big (by rw [S_len]; omega), by rw [S_len]⟩, _, rfl, _, y.length, rfl, ⟨line_big (by rw [S_len]; omega), by rw [S_len]⟩, _, _, rfl, _, _, rfl, rfl, _, rfl, ?_⟩
    have rc := rest_com x y
    refine ifB (fun c => ?_) (fun c => ?_)
    · have c := of_decide_eq_true c
      rw [if_pos (by split at c <;> omega)] at rc
      rw [rc] at q
      exact q _ _ (Same.refl _) .non
    · have c := of_decide_eq_false c
      rw [if_neg (by split at c <;> omega)] at rc
      rw [rc] at q
      refine ⟨_, rfl, _, rfl, _, rfl, _, rfl, line_big (by rw [S_len]; omega), _, rfl, _, rfl, _, rfl, _, rfl, line_big (by rw [S_len]; omega), ?_⟩
      refine ⟨line_big (by show 2 ≤ 16000000; decide), fun p hp => ?_⟩
      rw [cut_drop, cut_drop]
      exact q _ _ (same_new (Same.refl _) hp) (.tup upd_same (.cons (.str _) (.cons (.str _) .nil)))
end
end K67


/-! K1Reach: states by states, words to them; dicts whose keys are states. -/
namespace K67
open PySem PySem.Spec PyProof.Rows L2
def nv (s : Nat) : V := .int s
def nk (s : Nat) : Key × V := (.inl (s : Int), .bl true)
theorem dats_nv (H : Hp) (L : List Nat) : Dats H (L.map nv) (L.map natD) := by
  induction L with
  | nil => exact .nil
  | cons s L ih => exact .cons (.int _) ih
theorem nk_some (L : List Nat) (s : Nat) : (valV (L.map nk) (.inl (s : Int))).isSome = decide (s ∈ L) := by
  induction L with
  | nil => rfl
  | cons t L ih =>
    rw [List.map_cons]
    by_cases e : t = s
    · rw [valV_pos (by unfold nk; rw [e])]
      simp [e]
    · rw [valV_neg (by unfold nk; intro z; exact e (by have := Sum.inl.inj z; omega)), ih]
      have e2 : ¬ s = t := fun z => e z.symm
      simp [e2]
theorem nk_put {L : List Nat} {s : Nat} (h : s ∉ L) : putK (L.map nk) (.inl (s : Int)) (.bl true) = (L ++ [s]).map nk := by
  have e := nk_some L s
  rw [decide_eq_false h] at e
  rw [putK_new (.bl true) (by simpa using e), List.map_append]
  rfl
structure RInv (M : Mach) (L : List Nat) : Prop where
  nd : L.Nodup
  re : ∀ s ∈ L, Reach M s
  z : 0 ∈ L
  ord : ∀ (i s : Nat), L[i]? = some s → s = 0 ∨ ∃ (j p : Nat) (e : W × Nat), j < i ∧ L[j]? = some p ∧ e ∈ M.ents p ∧ e.2 = s
def Clo (M : Mach) (L : List Nat) (n : Nat) : Prop := ∀ j p, j < n → L[j]? = some p → ∀ e ∈ M.ents p, e.2 ∈ L
theorem rinv_zero (M : Mach) : RInv M [0] where
  nd := by simp
  re := fun s h => by
    have e : s = 0 := by simpa using h
    rw [e]
    exact .zero
  z := by simp
  ord := fun i s h => by
    cases i with
    | zero => exact .inl (Option.some.inj h).symm
    | succ i => simp at h
theorem get_app {α : Type} {L R : List α} {j : Nat} {p : α} (h : L[j]? = some p) : (L ++ R)[j]? = some p := by
  rw [List.getElem?_append_left (List.getElem?_eq_some_iff.mp h).1]
  exact h
theorem rinv_snoc {M : Mach} {L : List Nat} (I : RInv M L) {s n p : Nat} {e : W × Nat} (h : s ∉ L) (hn : L[n]? = some p) (he : e ∈ M.ents p) (es : e.2 = s) : RInv M (L ++ [s]) where
  nd := by
    rw [List.nodup_append]
    refine ⟨I.nd, by simp, fun a ha b hb => ?_⟩
    have e : b = s := by simpa using hb
    subst e
    rintro rfl
    exact h ha
  re := fun t ht => by
    rcases List.mem_append.mp ht with ht | ht
    · exact I.re t ht
    · have e : t = s := by simpa using ht
      subst e
      rw [← es]
      exact .step (I.re p (List.mem_of_getElem? hn)) he
  z := List.mem_append_left _ I.z
  ord := fun i t ht => by
    by_cases hi : i < L.length
    · rw [List.getElem?_append_left hi] at ht
      rcases I.ord i t ht with z | ⟨j, q, e', h1, h2, h3, h4⟩
      · exact .inl z
      · exact .inr ⟨j, q, e', h1, get_app h2, h3, h4⟩
    · rw [List.getElem?_append_right (by omega)] at ht
      have hi2 : i - L.length = 0 := by
        have := (List.getElem?_eq_some_iff.mp ht).1
        simp at this
        omega
      rw [hi2] at ht
      have et : s = t := Option.some.inj ht
      have hl := (List.getElem?_eq_some_iff.mp hn).1
      exact .inr ⟨n, p, e, by omega, get_app hn, he, by rw [es, et]⟩
theorem clo_app {M : Mach} {L R : List Nat} {n : Nat} (c : Clo M L n) (hn : n ≤ L.length) : Clo M (L ++ R) n := fun j p hj h e he => by
  rw [List.getElem?_append_left (by omega)] at h
  exact List.mem_append_left _ (c j p hj h e he)
theorem states_of {M : Mach} {L : List Nat} (I : RInv M L) (c : Clo M L L.length) : States M L where
  nd := I.nd
  all := fun s => ⟨I.re s, fun h => by
    induction h with
    | zero => exact I.z
    | step _ he ih =>
      obtain ⟨j, hj⟩ := List.mem_iff_getElem?.mp ih
      exact c j _ (List.getElem?_eq_some_iff.mp hj).1 hj _ he⟩
  ord := I.ord
theorem states_len {M : Mach} (V : Valid M) {L : List Nat} (nd : L.Nodup) (re : ∀ s ∈ L, Reach M s) : L.length ≤ M.rows.length := by
  have := nodup_le (m := List.range M.rows.length) nd fun s hs => List.mem_range.mpr (reach_lt V (re s hs))
  rwa [List.length_range] at this
/-! ### words to states -/
abbrev SW := Nat × W
def wk (q : SW) : Key × V := (.inl (q.1 : Int), .str (S q.2))
theorem wk_some (L : List SW) (s : Nat) : (valV (L.map wk) (.inl (s : Int))).isSome = decide (s ∈ L.map (·.1)) := by
  induction L with
  | nil => rfl
  | cons t L ih =>
    rw [List.map_cons, List.map_cons]
    by_cases e : t.1 = s
    · rw [valV_pos (by unfold wk; rw [e])]
      simp [e]
    · rw [valV_neg (by unfold wk; intro z; exact e (by have := Sum.inl.inj z; omega)), ih]
      have e2 : ¬ s = t.1 := fun z => e z.symm
      simp [e2]
theorem wk_get {L : List SW} {s : Nat} (h : s ∈ L.map (·.1)) : ∃ x, (s, x) ∈ L ∧ valV (L.map wk) (.inl (s : Int)) = some (.str (S x)) := by
  induction L with
  | nil => cases h
  | cons t L ih =>
    rw [List.map_cons]
    by_cases e : t.1 = s
    · refine ⟨t.2, ?_, ?_⟩
      · rw [← e]
        exact List.mem_cons_self
      · rw [valV_pos (by unfold wk; rw [e])]
        rfl
    · rw [valV_neg (by unfold wk; intro z; exact e (by have := Sum.inl.inj z; omega))]
      rw [List.map_cons] at h
      rcases List.mem_cons.mp h with h | h
      · exact absurd h.symm e
      · obtain ⟨x, h1, h2⟩ := ih h
        exact ⟨x, List.mem_cons_of_mem _ h1, h2⟩
theorem wk_put {L : List SW} {s : Nat} {x : W} (h : s ∉ L.map (·.1)) : putK (L.map wk) (.inl (s : Int)) (.str (S x)) = (L ++ [(s, x)]).map wk := by
  have e := wk_some L s
  rw [decide_eq_false h] at e
  rw [putK_new _ (by simpa using e), List.map_append]
  rfl
structure WInv (M : Mach) (L : List SW) : Prop where
  nd : (L.map (·.1)).Nodup
  ok : ∀ q ∈ L, Let M.k q.2 ∧ (walk M 0 q.2).2 = q.1 ∧ q.2.length + 1 ≤ L.length
  z : 0 ∈ L.map (·.1)
theorem winv_zero (M : Mach) : WInv M [(0, [])] where
  nd := by simp
  ok := fun q h => by
    have e : q = (0, []) := by simpa using h
    subst e
    exact ⟨let_nil, rfl, by simp⟩
  z := by simp
theorem winv_snoc {M : Mach} (V : Valid M) {L : List SW} (I : WInv M L) {s c : Nat} {x : W} (hs : (s, x) ∈ L) (hc : 97 ≤ c ∧ c < 97 + M.k) (h : (M.ent s c).2 ∉ L.map (·.1)) : WInv M (L ++ [((M.ent s c).2, x ++ [c])]) where
  nd := by
    rw [List.map_append, List.nodup_append]
    refine ⟨I.nd, by simp, fun a ha b hb => ?_⟩
    have e : b = (M.ent s c).2 := by simpa using hb
    subst e
    rintro rfl
    exact h ha
  ok := fun q hq => by
    rcases List.mem_append.mp hq with hq | hq
    · obtain ⟨h1, h2, h3⟩ := I.ok q hq
      exact ⟨h1, h2, by rw [List.length_append]; simp; omega⟩
    · have e : q = ((M.ent s c).2, x ++ [c]) := by simpa using hq
      subst e
      obtain ⟨h1, h2, h3⟩ := I.ok _ hs
      refine ⟨let_app h1 fun d hd => by
        have e : d = c := by simpa using hd
        rw [e]
        exact hc, ?_, ?_⟩
      · show (walk M 0 (x ++ [c])).2 = (M.ent s c).2
        rw [walk_app, show (walk M 0 x).2 = s from h2]
        rfl
      · simp
        exact h3
  z := by
    rw [List.map_append]
    exact List.mem_append_left _ I.z
theorem winv_len {M : Mach} (V : Valid M) {L : List SW} (I : WInv M L) : L.length ≤ 3 := by
  have := nodup_le (m := List.range M.rows.length) I.nd fun s hs => by
    obtain ⟨q, hq, e⟩ := List.mem_map.mp hs
    obtain ⟨h1, h2, h3⟩ := I.ok q hq
    rw [← e, ← h2]
    exact List.mem_range.mpr (walk_lt V V.n1 h1)
  rw [List.length_range, List.length_map] at this
  have := V.n3
  omega
end K67

/-! K4c: walking a machine. -/
namespace K67
open PySem PySem.Spec PyProof.Rows L2
section
variable {P : Program} {w : World} {K : PySem.W.Frag} {mg : Str → Option Value} {base : Heap}
/-- the machine's parts in a later heap -/
theorem mach_at {H : Hp} {v : V} {M : Mach} (m : MAt H v M) : ∃ a r rs, v = .ref a ∧ H a = some (.tup [.int M.k, .str (S M.first), .ref r]) ∧ H r = some (.tup rs) ∧ rs.length = M.rows.length ∧
    ∀ s, s < M.rows.length → ∃ q e es, rs[s]? = some (.ref q) ∧ H q = some (.tup [.str (S (M.last s)), .ref e]) ∧ H e = some (.tup es) ∧ Dats H es ((M.ents s).map enD) := by
  obtain ⟨V, d⟩ := m
  obtain ⟨a, r, rs, e0, h1, h2, h3⟩ := mach_inv d
  exact ⟨a, r, rs, e0, h1, h2, by rw [h3.length, List.length_map], fun s hs => row_at h3 hs⟩
theorem MAt.same {H H' : Hp} {v : V} {M : Mach} (m : MAt H v M) (s : Same H H') : MAt H' v M := ⟨m.1, m.2.same s⟩
theorem MAt.ts {H H' : Hp} {v : V} {M : Mach} (m : MAt H v M) (s : TS H H') : MAt H' v M := ⟨m.1, m.2.to s⟩
theorem take_at {x : W} {i c : Nat} (h : x[i]? = some c) : x.take (i + 1) = x.take i ++ [c] := by rw [List.take_add_one, h]; rfl
theorem walk_step {M : Mach} {s : Nat} {x o : W} {st i c : Nat} (h : x[i]? = some c) (e : walk M s (x.take i) = (o, st)) : walk M s (x.take (i + 1)) = (o ++ (M.ent st c).1, (M.ent st c).2) := by
  rw [take_at h, walk_app, e]
  show (o ++ ((M.ent st c).1 ++ []), _) = _
  rw [List.append_nil]
  rfl
/-- machine[2][state][1]["abcdef".index(letter)] -/
theorem entry_at {H : Hp} {v : V} {M : Mach} (m : MAt H v M) {st c : Nat} (hst : st < M.rows.length) (hc : 97 ≤ c ∧ c < 97 + M.k) :
    ∃ a r rs qa e es en, v = .ref a ∧ H a = some (.tup [.int M.k, .str (S M.first), .ref r]) ∧ H r = some (.tup rs) ∧ rs[st]? = some (.ref qa) ∧ H qa = some (.tup [.str (S (M.last st)), .ref e]) ∧ H e = some (.tup es) ∧
      es[c - 97]? = some (.ref en) ∧ H en = some (.tup [.str (S (M.ent st c).1), .int (M.ent st c).2]) := by
  obtain ⟨a, r, rs, rfl, ha, hr2, lr, row⟩ := mach_at m
  obtain ⟨qa, e, es, e1, e2, e3, e4⟩ := row st hst
  obtain ⟨en, ge2, he⟩ := en_at e4 (ent_get m.1 hst hc)
  exact ⟨a, r, rs, qa, e, es, en, rfl, ha, hr2, e1, e2, e3, ge2, he⟩
theorem ok_walked (T : Tx K mg) : FnOk P w K mg base CX0 1 T.f_walked T.d_walked ["machine", "state", "word"] (sp_walked) := by
  obtain ⟨tLET, gLET⟩ := T.LETTERS
  refine T.F_walked.ok sc_walked (fun vs H Q E h => ?_) (fun cdv A outer s H vs Q E hr h => ?_)
  · obtain ⟨v, M, s, x, rfl, _⟩ := h
    rfl
  · obtain ⟨v, M, s0, x, rfl, m, hs, hl, hx, q⟩ := h
    refine ⟨_, PSs.nox (pss_cons (ps_set (i := 3) sc_walked.nd rfl (by first | exact .inl rfl | exact .inr rfl) (pe_lst pa_nil)) (pss_cons (ps_for PassesOwn.never rfl (pi_str (pv 2)) (pg_name (i := 4) sc_walked.nd rfl (by first | exact .inl rfl | exact .inr rfl)) (pss_cons (ps_asg (pe_ix ix_tup (pe_ix ix_tup (pe_ix ix_tup (pe_ix ix_tup (pv 0) pe_int (fun _ _ => rfl)) (pv 1) (fun _ _ => rfl)) pe_int (fun _ _ => rfl)) (pe_bm PySem.F.plainAttrs_str PySem.F.slot_str_index PySem.F.type_str_index mt_sindex (pe_glob (v := .str "abcdef") rfl gLET ⟨tLET, rfl⟩) (pa_cons (pv 4) pa_nil)) (fun _ _ => rfl)) (pg_tup (n := 2) rfl (pgs_cons (pg_name (i := 5) sc_walked.nd rfl (by first | exact .inl rfl | exact .inr rfl)) (pgs_cons (pg_name (i := 1) sc_walked.nd rfl (by first | exact .inl rfl | exact .inr rfl)) pgs_nil)))) (pss_one (ps_expr (pe_bm PySem.F.plainAttrs_list PySem.F.slot_list_append PySem.F.type_list_append mt_append (pv 3) (pa_cons (pv 5) pa_nil)))))) (pss_one (ps_ret (pe_tup (pa_cons (pe_join pe_str (pv 3)) (pa_cons (pv 1) pa_nil))))))), ?_⟩
    refine ⟨Nat.zero_le _, fun l nl => ?_⟩
    have hv := m.1
    refine ⟨_, rfl, S x, rfl, for_it walk_str (fun i σ H' => ∃ (outs : List W) (st : Nat) (a1 a2 : Option L2.V), σ = [some v, some (.int st), some (.str (S x)), some (.ref l), a1, a2] ∧ Same H H' ∧ H' l = some (.lst (outs.map fun z => .str (S z))) ∧ outs.length = i ∧ walk M s0 (x.take i) = (outs.flatten, st) ∧ st < M.rows.length)
      ⟨[], s0, none, none, rfl, same_new (Same.refl _) nl, upd_same, rfl, rfl, hs⟩ (fun _ _ _ _ _ => trivial) ?_ ?_⟩
    · rintro i y σ H1 H1' hi ⟨outs, st, a1, a2, rfl, sm, hL, lo, ew, hst⟩ ⟨rfl, c, hc, rfl⟩
      rw [S_size] at hi
      rw [S_get] at hc
      have hcl := hl c (List.mem_of_getElem? hc)
      have hk3 := hv.k3
      obtain ⟨a, r, rs, qa, e, es, en, rfl, ha, hr2, e1, e2, e3, e4, he⟩ := entry_at (m.same sm) hst hcl
      refine ⟨_, rfl, a, _, 2, _, rfl, rfl, .of ha, rfl, _, rfl, r, rs, st, _, rfl, rfl, .of hr2, atI_nat e1, qa, _, 1, _, rfl, rfl, .of e2, rfl, ?_⟩
      refine ⟨rfl, _, rfl, _, _, _, _, rfl, rfl, occ_letter hk3 hcl, e, es, _, _, rfl, rfl, .of e3, atI_nat e4, ?_⟩
      refine ⟨en, _, rfl, .of he, rfl, _, _, rfl, _, _, rfl, rfl, ?_⟩
      refine ⟨.ref l, rfl, .inl ⟨rfl, _, .of hL⟩, _, rfl, l, _, _, rfl, rfl, hL, by rw [List.length_map, lo]; exact line_lt (by omega), ?_⟩
      refine ⟨outs ++ [(M.ent st c).1], (M.ent st c).2, _, _, rfl, same_set sm nl, ?_, by rw [List.length_append, lo]; rfl, ?_, (ents_ok hv hst (ent_mem hv hst hcl)).2.2⟩
      · rw [upd_same, List.map_append]
        rfl
      · rw [walk_step hc ew, List.flatten_append]
        simp
    · rintro σ H1 ⟨outs, st, a1, a2, rfl, sm, hL, lo, ew, hst⟩
      rw [S_size] at lo
      rw [S_size, List.take_length] at ew
      have wl := (walk_let hv hs hl).2
      rw [ew] at wl q
      refine ⟨⟨_, rfl⟩, _, rfl, _, l, outs.map S, rfl, rfl, .inl (.of (by rw [hL, List.map_map]; rfl)), ?_, _, rfl, ?_⟩
      · rw [sum_len]
        show _ + _ * 0 ≤ _
        have wl : outs.flatten.length ≤ 2 * x.length := wl
        omega
      · refine ⟨line_big (by show 2 ≤ 16000000; decide), fun p hp => ?_⟩
        rw [join_S]
        exact q _ _ (same_new sm hp) (.tup upd_same (.cons (.str _) (.cons (.int _) .nil)))
theorem ok_changed (T : Tx K mg) : FnOk P w K mg base CX0 2 T.f_changed T.d_changed ["machine", "word"] (sp_changed) := by
  refine T.F_changed.ok sc_changed (fun vs H Q E h => ?_) (fun cdv A outer s H vs Q E hr h => ?_)
  · obtain ⟨v, M, x, rfl, _⟩ := h
    rfl
  · obtain ⟨v, M, x, rfl, m, hl, hx, q⟩ := h
    have hv := m.1
    refine ⟨_, PSs.nox (pss_cons (ps_asg (pe_call (ok_walked T) (hr.mono (by decide)) rfl T.g_walked T.F_walked.kp T.b_walked .nil pass0 (pa_cons (pv 0) (pa_cons pe_int (pa_cons (pv 1) pa_nil)))) (pg_tup (n := 2) rfl (pgs_cons (pg_name (i := 2) sc_changed.nd rfl (by first | exact .inl rfl | exact .inr rfl)) (pgs_cons (pg_name (i := 3) sc_changed.nd rfl (by first | exact .inl rfl | exact .inr rfl)) pgs_nil)))) (pss_one (ps_ret (pe_op op_add_str (pe_op op_add_str (pe_ix ix_tup (pv 0) pe_int (fun _ _ => rfl)) (pv 2)) (pe_ix ix_tup (pe_ix ix_tup (pe_ix ix_tup (pv 0) pe_int (fun _ _ => rfl)) (pv 3) (fun _ _ => rfl)) pe_int (fun _ _ => rfl)))))), ?_⟩
    refine ⟨_, rfl, _, rfl, v, M, 0, x, rfl, m, hv.n1, hl, hx, fun u H1 sm d => ?_⟩
    obtain ⟨t, ts, rfl, ht, dt⟩ := d.tup_inv
    obtain ⟨u1, u2, rfl, d1, d2⟩ := dt.two_inv
    rw [Dat.str_inv d1, d2.int_inv] at ht
    refine ⟨t, _, rfl, .of ht, rfl, _, _, rfl, _, _, rfl, rfl, ?_⟩
    have hst := walk_lt hv hv.n1 hl
    have hwl := (walk_let hv hv.n1 hl).2
    obtain ⟨a, r, rs, rfl, ha, hr2, lr, row⟩ := mach_at (m.same sm)
    obtain ⟨qa, e, es, e1, e2, e3, e4⟩ := row _ hst
    have f2 := hv.fst2
    have l2 := (last_ok hv hst).2
    refine ⟨_, rfl, a, _, 1, _, rfl, rfl, .of ha, rfl, _, rfl, S M.first, S (walk M 0 x).1, rfl, rfl, line_big (by rw [S_len, S_len]; omega), ?_⟩
    refine ⟨_, rfl, a, _, 2, _, rfl, rfl, .of ha, rfl, _, rfl, r, rs, _, _, rfl, rfl, .of hr2, atI_nat e1, qa, _, 0, _, rfl, rfl, .of e2, rfl, _, _, rfl, rfl, line_big (by rw [S_app, S_len, S_len, List.length_append]; omega), ?_⟩
    have e9 : S M.first ++ S (walk M 0 x).1 ++ S (M.last (walk M 0 x).2) = S (form M x) := by
      rw [S_app, S_app, List.append_assoc]
      rfl
    rw [e9]
    exact q _ sm
theorem ok_check_call (T : Tx K mg) : FnOk P w K mg base CX0 7 T.f_check_call T.d_check_call ["machine", "word"] (sp_check_call) := by
  refine T.F_check_call.ok sc_check_call (fun vs H Q E h => ?_) (fun cdv A outer s H vs Q E hr h => ?_)
  · obtain ⟨v, M, x, rfl, _⟩ := h
    rfl
  · obtain ⟨v, M, x, rfl, m, hl, hx, q⟩ := h
    have hv := m.1
    refine ⟨_, PSs.nox (pss_cons (ps_expr (pe_call (ok_check_wide T) (hr.mono (by decide)) rfl T.g_check_wide T.F_check_wide.kp T.b_check_wide .nil pass0 (pa_cons (pv 0) pa_nil))) (pss_one (ps_expr (pe_call (ok_check_word T) (hr.mono (by decide)) rfl T.g_check_word T.F_check_word.kp T.b_check_word .nil pass0 (pa_cons (pe_ix ix_tup (pv 0) pe_int (fun _ _ => rfl)) (pa_cons (pv 1) pa_nil)))))), ?_⟩
    refine ⟨_, rfl, _, M, rfl, m, fun H1 s1 => ?_⟩
    obtain ⟨a, r, rs, rfl, ha, hr2, lr, row⟩ := mach_at (m.same s1)
    exact ⟨_, rfl, a, _, 0, _, rfl, rfl, .of ha, rfl, _, rfl, M.k, x, rfl, hv.k2, hv.k3, hl, hx, fun H2 s2 => q _ (s1.trans s2)⟩
theorem ok_form (T : Tx K mg) : FnOk P w K mg base CX0 8 T.f_form T.d_form ["machine", "word"] (sp_form) := by
  refine T.F_form.ok sc_form (fun vs H Q E h => ?_) (fun cdv A outer s H vs Q E hr h => ?_)
  · obtain ⟨v, M, x, rfl, _⟩ := h
    rfl
  · obtain ⟨v, M, x, rfl, m, hl, hx, q⟩ := h
    refine ⟨_, PSs.nox (pss_cons (ps_expr (pe_call (ok_check_call T) (hr.mono (by decide)) rfl T.g_check_call T.F_check_call.kp T.b_check_call .nil pass0 (pa_cons (pv 0) (pa_cons (pv 1) pa_nil)))) (pss_one (ps_ret (pe_call (ok_changed T) (hr.mono (by decide)) rfl T.g_changed T.F_changed.kp T.b_changed .nil pass0 (pa_cons (pv 0) (pa_cons (pv 1) pa_nil)))))), ?_⟩
    exact ⟨_, rfl, _, rfl, v, M, x, rfl, m, hl, hx, fun H1 s1 => ⟨_, rfl, _, rfl, v, M, x, rfl, m.same s1, hl, by omega, fun H2 s2 => q _ (s1.trans s2)⟩⟩
theorem ok_is_done (T : Tx K mg) : FnOk P w K mg base CX0 1 T.f_is_done T.d_is_done ["place"] (sp_is_done) := by
  obtain ⟨tEND, gEND⟩ := T.END
  refine T.F_is_done.ok sc_is_done (fun vs H Q E h => ?_) (fun cdv A outer s H vs Q E hr h => ?_)
  · obtain ⟨v, p, rfl, _⟩ := h
    rfl
  · obtain ⟨v, p, rfl, d, sp, q⟩ := h
    refine ⟨_, PSs.nox (pss_one (ps_ret (pe_cmpR (op_eqD hr.units) (pv 0) (pe_tup (pa_cons (pe_glob (v := .int (-1)) rfl gEND ⟨tEND, rfl⟩) (pa_cons (pe_glob (v := .int (-1)) rfl gEND ⟨tEND, rfl⟩) (pa_cons (pe_tup (pa_cons pe_str (pa_cons pe_str pa_nil))) pa_nil)))) (nomark _)))), ?_⟩
    refine ⟨_, rfl, ⟨line_big (by show 2 ≤ 16000000; decide), fun b nb => ⟨line_big (by show 3 ≤ 16000000; decide), fun a na => ?_⟩⟩⟩
    have hb : (upd (upd H b (.tup [.str ("" : Str), .str ("" : Str)])) a (.tup [.int (-1), .int (-1), .ref b])) b = some (.tup [.str ("" : Str), .str ("" : Str)]) := by
      have n : b ≠ a := fun e => by
        subst e
        rw [upd_same] at na
        cases na
      rw [upd_ne n, upd_same]
    have s2 := same_new (o := .tup [.int (-1), .int (-1), .ref b]) (same_new (o := .tup [.str ("" : Str), .str ("" : Str)]) (Same.refl H) nb) na
    refine ⟨plD p, plD doneP, (d.same s2).dp, (pl_mk (p := doneP) upd_same (by rw [hb, S_nil])).dp, sp, shaped_done, ?_⟩
    rw [eqv_pl]
    exact q _ s2
theorem ok_moves (T : Tx K mg) : FnOk P w K mg base CX0 1 T.f_moves T.d_moves ["machine", "state"] (sp_moves) := by
  obtain ⟨tLET, gLET⟩ := T.LETTERS
  obtain ⟨tEND, gEND⟩ := T.END
  refine T.F_moves.ok sc_moves (fun vs H Q E h => ?_) (fun cdv A outer s H vs Q E hr h => ?_)
  · obtain ⟨v, M, s, rfl, _⟩ := h
    rfl
  · obtain ⟨v, M, s0, rfl, m, hs, q⟩ := h
    have hv := m.1
    have hk3 := hv.k3
    refine ⟨_, PSs.nox (pss_cons (ps_asg (pe_ix ix_tup (pe_ix ix_tup (pv 0) pe_int (fun _ _ => rfl)) (pv 1) (fun _ _ => rfl)) (pg_tup (n := 2) rfl (pgs_cons (pg_name (i := 2) sc_moves.nd rfl (by first | exact .inl rfl | exact .inr rfl)) (pgs_cons (pg_name (i := 3) sc_moves.nd rfl (by first | exact .inl rfl | exact .inr rfl)) pgs_nil)))) (pss_cons (ps_set (i := 4) sc_moves.nd rfl (by first | exact .inl rfl | exact .inr rfl) (pe_lst (pa_cons (pe_tup (pa_cons pe_str (pa_cons (pv 2) (pa_cons (pe_glob (v := .int (-1)) rfl gEND ⟨tEND, rfl⟩) pa_nil)))) pa_nil))) (pss_cons (ps_for PassesOwn.never rfl (pi_zipST (by rfl) T.n_zip (pa_cons (pe_glob (v := .str "abcdef") rfl gLET ⟨tLET, rfl⟩) (pa_cons (pv 3) pa_nil))) (pg_tup (n := 2) rfl (pgs_cons (pg_name (i := 5) sc_moves.nd rfl (by first | exact .inl rfl | exact .inr rfl)) (pgs_cons (pg_tup (n := 2) rfl (pgs_cons (pg_name (i := 6) sc_moves.nd rfl (by first | exact .inl rfl | exact .inr rfl)) (pgs_cons (pg_name (i := 7) sc_moves.nd rfl (by first | exact .inl rfl | exact .inr rfl)) pgs_nil))) pgs_nil))) (pss_one (ps_expr (pe_bm PySem.F.plainAttrs_list PySem.F.slot_list_append PySem.F.type_list_append mt_append (pv 4) (pa_cons (pe_tup (pa_cons (pv 5) (pa_cons (pv 6) (pa_cons (pv 7) pa_nil)))) pa_nil))))) (pss_one (ps_ret (pv 4)))))), ?_⟩
    obtain ⟨a, r, rs, rfl, ha, hr2, lr, row⟩ := mach_at m
    obtain ⟨qa, e, es, e1, e2, e3, e4⟩ := row s0 hs
    have le : es.length = M.k := by rw [e4.length, List.length_map, ents_len hv hs]
    refine ⟨_, rfl, a, _, 2, _, rfl, rfl, .of ha, rfl, _, rfl, r, rs, s0, _, rfl, rfl, .of hr2, atI_nat e1, qa, _, rfl, .of e2, rfl, _, _, rfl, _, _, rfl, rfl, ?_⟩
    refine ⟨_, rfl, line_big (by show 3 ≤ 16000000; decide), fun t0 nt => ⟨line_big (by show 1 ≤ 16000000; decide), fun l nl => ?_⟩⟩
    have n0 : t0 ≠ l := fun e => by
      subst e
      rw [upd_same] at nl
      cases nl
    have st := same_new (o := .tup [.str ("" : Str), .str (S (M.last s0)), .int (-1)]) (Same.refl H) nt
    have nl0 : H l = none := st.free nl
    have st1 := same_new (o := .lst [.ref t0]) st nl
    refine ⟨_, rfl, _, _, _, rfl, .of (st1 _ _ e3), for_it (walk_zipST (n := M.k) (by rw [le]; show M.k = min 6 M.k; omega)) (fun i σ H' => ∃ (xs : List L2.V) (a1 a2 a3 : Option L2.V), σ = [some (.ref a), some (.int s0), some (.str (S (M.last s0))), some (.ref e), some (.ref l), a1, a2, a3] ∧ Same H H' ∧ H' l = some (.lst xs) ∧ Dats H' xs (((moves M s0).take (i + 1)).map mvD) ∧ xs.length = i + 1)
      ⟨[.ref t0], none, none, none, rfl, st1, upd_same, .cons (.tup (by rw [upd_ne n0, upd_same]) (.cons (by rw [← S_nil]; exact .str _) (.cons (.str _) (.cons (.int _) .nil)))) .nil, rfl⟩ (fun _ _ _ _ ⟨_, _, _, _, _, sm, _⟩ => .of (sm _ _ e3)) ?_ ?_⟩
    · rintro i y σ H1 H1' hi ⟨xs, a1, a2, a3, rfl, sm, hL, hd, hlx⟩ ⟨tt, c, y', rfl, nt1, rfl, hc, hy⟩
      have ge : (M.ents s0)[i]? = some ((M.ents s0)[i]'(by rw [ents_len hv hs]; exact hi)) := List.getElem?_eq_getElem _
      generalize (M.ents s0)[i]'(by rw [ents_len hv hs]; exact hi) = en at ge
      obtain ⟨ea, ge2, he⟩ := en_at e4 ge
      rw [hy] at ge2
      cases ge2
      have hc2 : c = 97 + i := by
        have : i = 0 ∨ i = 1 ∨ i = 2 := by omega
        rcases this with rfl | rfl | rfl <;> exact (Option.some.inj hc).symm
      subst hc2
      have s2 := same_new (o := .tup [.str ⟨#[97 + i]⟩, .ref ea]) sm nt1
      refine ⟨tt, _, rfl, .of upd_same, rfl, _, _, rfl, _, _, rfl, ⟨ea, _, rfl, .of (s2 _ _ he), rfl, _, _, rfl, _, _, rfl, rfl, rfl, ?_⟩⟩
      have nlt : l ≠ tt := ne_of_none hL nt1
      have hL2 : (upd H1 tt (.tup [.str ⟨#[97 + i]⟩, .ref ea])) l = some (.lst xs) := by rw [upd_ne nlt]; exact hL
      refine ⟨.ref l, rfl, .inl ⟨rfl, _, .of hL2⟩, _, rfl, _, rfl, _, rfl, line_big (by show 3 ≤ 16000000; decide), fun t3 nt3 => ?_⟩
      have hL3 : (upd (upd H1 tt (.tup [.str ⟨#[97 + i]⟩, .ref ea])) t3 (.tup [.str ⟨#[97 + i]⟩, .str (S en.1), .int en.2])) l = some (.lst xs) := by rw [upd_ne (ne_of_none hL2 nt3)]; exact hL2
      refine ⟨l, xs, _, rfl, rfl, hL3, by rw [hlx]; exact line_lt (by omega), ?_⟩
      have s3 := same_new (o := .tup [.str ⟨#[97 + i]⟩, .str (S en.1), .int en.2]) s2 nt3
      have d3 := (hd.to (ts_new (o := .tup [.str ⟨#[97 + i]⟩, .ref ea]) nt1)).to (ts_new (o := .tup [.str ⟨#[97 + i]⟩, .str (S en.1), .int en.2]) nt3)
      refine ⟨xs ++ [.ref t3], _, _, _, rfl, same_set s3 nl0, upd_same, ?_, by rw [List.length_append, hlx]; rfl⟩
      rw [List.take_add_one, move_at M s0 i ge, List.map_append]
      refine Dats.to ?_ (ts_lst hL3)
      exact d3.snoc (.tup upd_same (.cons (.str _) (.cons (.str _) (.cons (.int _) .nil))))
    · rintro σ H1 ⟨xs, a1, a2, a3, rfl, sm, hL, hd, hlx⟩
      refine ⟨_, rfl, q l xs H1 sm nl0 hL ?_⟩
      rwa [List.take_of_length_le (by unfold moves; simp [ents_len hv hs])] at hd
theorem ok_check_place (T : Tx K mg) : FnOk P w K mg base CX0 2 T.f_check_place T.d_check_place ["machine", "place"] (sp_check_place) := by
  refine T.F_check_place.ok sc_check_place (fun vs H Q E h => ?_) (fun cdv A outer s H vs Q E hr h => ?_)
  · obtain ⟨v, M, u, p, rfl, _⟩ := h
    rfl
  · obtain ⟨v, M, u, p, rfl, m, d, ok, q⟩ := h
    have hv := m.1
    refine ⟨_, PSs.nox (pss_cons (ps_asg (pv 1) (pg_tup (n := 3) rfl (pgs_cons (pg_name (i := 2) sc_check_place.nd rfl (by first | exact .inl rfl | exact .inr rfl)) (pgs_cons (pg_name (i := 3) sc_check_place.nd rfl (by first | exact .inl rfl | exact .inr rfl)) (pgs_cons (pg_tup (n := 2) rfl (pgs_cons (pg_name (i := 4) sc_check_place.nd rfl (by first | exact .inl rfl | exact .inr rfl)) (pgs_cons (pg_name (i := 5) sc_check_place.nd rfl (by first | exact .inl rfl | exact .inr rfl)) pgs_nil))) pgs_nil))))) (pss_cons (ps_set (i := 6) sc_check_place.nd rfl (by first | exact .inl rfl | exact .inr rfl) (pe_callB call_len rfl T.n_len boot_len (pa_cons (pe_ix ix_tup (pv 0) pe_int (fun _ _ => rfl)) pa_nil))) (pss_cons (ps_if (PW.pt (pw_or (pt_not (pt_chain op_le op_lt (pe_un un_neg pe_int) (pv 2) (pv 6))) (pw_or (pt_not (pt_chain op_le op_lt (pe_un un_neg pe_int) (pv 3) (pv 6))) (pw_or1 (PW.pt (pw_and (pt_cmpR op_ne (pv 4) pe_str (nomark _)) (pw_and1 (pt_cmpR op_ne (pv 5) pe_str (nomark _))))))))) pss_never pss_nil) (pss_one (ps_if (pt_not (pt_truth (pe_call (ok_has_letters T) (hr.mono (by decide)) rfl T.g_has_letters T.F_has_letters.kp T.b_has_letters .nil pass0 (pa_cons (pe_ix ix_tup (pv 0) pe_int (fun _ _ => rfl)) (pa_cons (pe_op op_add_str (pv 4) (pv 5)) pa_nil))) (fun _ => rfl))) pss_never pss_nil))))), ?_⟩
    obtain ⟨a, r, rs, rfl, ha, hr2, lr, row⟩ := mach_at m
    obtain ⟨pa, pb, rfl, hp, hp2⟩ := pl_inv d
    have z1 := ok.s0
    have z2 := ok.s1
    have z3 := ok.t0
    have z4 := ok.t1
    refine ⟨_, rfl, pa, _, rfl, .of hp, rfl, _, _, rfl, _, _, rfl, _, _, rfl, ⟨pb, _, rfl, .of hp2, rfl, _, _, rfl, _, _, rfl, rfl, rfl, ?_⟩⟩
    refine ⟨_, rfl, a, _, 2, _, rfl, rfl, .of ha, rfl, _, M.rows.length, rfl, .inr ⟨rs, .of hr2, lr.symm⟩, ?_⟩
    refine ⟨1, rfl, _, rfl, -1, p.s, rfl, rfl, _, rfl, ifT (decide_eq_true z1) ⟨_, rfl, _, _, rfl, rfl, _, rfl, ?_⟩⟩
    refine ifF (by rw [decide_eq_true z2]; rfl) ?_
    refine ⟨1, rfl, _, rfl, -1, p.t, rfl, rfl, _, rfl, ifT (decide_eq_true z3) ⟨_, rfl, _, _, rfl, rfl, _, rfl, ?_⟩⟩
    refine ifF (by rw [decide_eq_true z4]; rfl) ?_
    have fin : tIfS (tNot fun σ H_1 Q => tCall sp_has_letters [] E0 (tCons (tOp (rIxT K) (tVar 0) (tC (.int 0))) (tCons (tOp (fun x y H Q => ∃ i j, x = V.str i ∧ y = V.str j ∧ i.length + j.length ≤ sizeLine ∧ Q (.str (i ++ j)) H) (tVar 4) (tVar 5)) tNil)) σ H_1 fun x H' => ∃ k, TruV K x H' k ∧ Q k H') tNever tNext
        { nx := fun _ H' => Q .non H', rt := Q } [some (.ref a), some (.ref pa), some (.int p.s), some (.int p.t), some (.str (S p.x)), some (.str (S p.y)), some (.int M.rows.length)] H := by
      refine ⟨_, rfl, a, _, 0, _, rfl, rfl, .of ha, rfl, _, rfl, _, rfl, S p.x, S p.y, rfl, rfl, line_big (by rw [S_len, S_len]; have := ok.x2; have := ok.y2; omega), ?_⟩
      rw [S_app]
      refine ⟨M.k, p.x ++ p.y, rfl, hv.k3, let_app ok.lx ok.ly, by rw [List.length_append]; have := ok.x2; have := ok.y2; omega, fun H1 s1 => ⟨true, rfl, ifF rfl (q _ s1)⟩⟩
    refine ⟨_, rfl, rfl, _, rfl, ?_⟩
    refine ifB (fun c => ⟨_, rfl, rfl, _, rfl, ifF ?_ fin⟩) (fun c => ifF rfl fin)
    have c2 : p.x ≠ [] := fun e => by
      rw [e, S_nil, decide_eq_true rfl] at c
      cases c
    have c3 : p.y = [] := ok.xy.resolve_left c2
    rw [c3, S_nil, decide_eq_true rfl]
    rfl
end
end K67


/-! K4d: the states that are reached, words to them. -/
namespace K67
open PySem PySem.Spec PyProof.Rows L2
section
variable {P : Program} {w : World} {K : PySem.W.Frag} {mg : Str → Option Value} {base : Heap}
theorem ok_reached_states (T : Tx K mg) : FnOk P w K mg base CX0 1 T.f_reached_states T.d_reached_states ["machine"] (sp_reached_states) := by
  refine T.F_reached_states.ok sc_reached_states (fun vs H Q E h => ?_) (fun cdv A outer s H vs Q E hr h => ?_)
  · obtain ⟨v, M, rfl, _⟩ := h
    rfl
  · obtain ⟨v, M, rfl, m, q⟩ := h
    have hv := m.1
    have hn3 := hv.n3
    refine ⟨_, PSs.nox (pss_cons (ps_set (i := 1) sc_reached_states.nd rfl (by first | exact .inl rfl | exact .inr rfl) (pe_lst (pa_cons pe_int pa_nil))) (pss_cons (ps_set (i := 2) sc_reached_states.nd rfl (by first | exact .inl rfl | exact .inr rfl) (pe_disp (pps_cons pe_int pe_bl pps_nil) (by rfl) rfl (by simp) (by decide))) (pss_cons (ps_set (i := 3) sc_reached_states.nd rfl (by first | exact .inl rfl | exact .inr rfl) pe_int) (pss_cons (ps_while PassesOwn.never (pt_cmpR op_lt (pv 3) (pe_callB call_len rfl T.n_len boot_len (pa_cons (pv 1) pa_nil)) (nomark _)) (pss_cons (ps_for PassesOwn.never rfl (pi_tup (pe_ix ix_tup (pe_ix ix_tup (pe_ix ix_tup (pv 0) pe_int (fun _ _ => rfl)) (pe_ix ix_list (pv 1) (pv 3) (fun _ _ => rfl)) (fun _ _ => rfl)) pe_int (fun _ _ => rfl))) (pg_tup (n := 2) rfl (pgs_cons (pg_name (i := 4) sc_reached_states.nd rfl (by first | exact .inl rfl | exact .inr rfl)) (pgs_cons (pg_name (i := 5) sc_reached_states.nd rfl (by first | exact .inl rfl | exact .inr rfl)) pgs_nil))) (pss_one (ps_if (pt_cmp (pc_dnotin (room1 hr) (pv 5) (pv 2))) (pss_cons (ps_dput (room1 hr) (pv 2) (pv 5) pe_bl rfl) (pss_one (ps_expr (pe_bm PySem.F.plainAttrs_list PySem.F.slot_list_append PySem.F.type_list_append mt_append (pv 1) (pa_cons (pv 5) pa_nil))))) pss_nil))) (pss_one (ps_aug (i := 3) sc_reached_states.nd rfl (by first | exact .inl rfl | exact .inr rfl) pe_int ip_add)))) (pss_one (ps_ret (pv 1))))))), ?_⟩
    refine ⟨line_big (by show 1 ≤ 16000000; decide), fun l nl => fun d nd => ⟨upd_same, [(.inl 0, .bl true)], rfl, by decide, ?_⟩⟩
    have nld : l ≠ d := ne_of_none upd_same nd
    have s1 := same_new (o := .lst [.int 0]) (Same.refl H) nl
    have s2 := same_new (o := .dK []) s1 nd
    have nd0 : H d = none := s1.free nd
    have s3 := same_set (o := .dK (mergeK [] [(Sum.inl 0, V.bl true)])) s2 nd0
    refine ⟨fun k σ H' => ∃ (at_ : Nat) (L : List Nat) (a1 a2 : Option L2.V), σ = [some v, some (.ref l), some (.ref d), some (.int at_), a1, a2] ∧ Same H H' ∧ H' l = some (.lst (L.map nv)) ∧ H' d = some (.dK (L.map nk)) ∧ RInv M L ∧ at_ ≤ L.length ∧ Clo M L at_ ∧ k = 3 - at_,
      ⟨_, 0, [0], none, none, rfl, s3, by rw [upd_ne nld, upd_ne nld, upd_same]; rfl, upd_same, rinv_zero M, Nat.zero_le _, fun j p hj => absurd hj (Nat.not_lt_zero _), rfl⟩, ?_⟩
    rintro k σ H' ⟨at_, L, a1, a2, rfl, sm, hL, hd, hI, hat, hc, rfl⟩
    have hLn := states_len hv hI.nd hI.re
    refine ⟨_, rfl, _, rfl, _, L.length, rfl, .inl ⟨_, .of hL, by rw [List.length_map]⟩, _, _, rfl, rfl, _, rfl, ifB (fun c => ?_) (fun c => ?_)⟩
    · have c := of_decide_eq_true c
      have hlt : at_ < L.length := by omega
      have gst : L[at_]? = some L[at_] := List.getElem?_eq_getElem hlt
      generalize L[at_] = st at gst
      have hst := reach_lt hv (hI.re st (List.mem_of_getElem? gst))
      refine ⟨fun σ' H'' => ∃ (L' : List Nat) (a1 a2 : Option L2.V), σ' = [some v, some (.ref l), some (.ref d), some (.int ((at_ + 1 : Nat) : Int)), a1, a2] ∧ Same H H'' ∧ H'' l = some (.lst (L'.map nv)) ∧ H'' d = some (.dK (L'.map nk)) ∧ RInv M L' ∧ at_ + 1 ≤ L'.length ∧ Clo M L' (at_ + 1),
        fun σ' H'' ⟨L', b1, b2, e1, e2, e3, e4, e5, e6, e7⟩ => ⟨3 - (at_ + 1), by omega, at_ + 1, L', b1, b2, e1, e2, e3, e4, e5, e6, e7, rfl⟩, ?_⟩
      obtain ⟨a, r, rs, rfl, ha, hr2, lr, row⟩ := mach_at (m.same sm)
      obtain ⟨qa, e, es, e1, e2, e3, e4⟩ := row st hst
      refine ⟨_, rfl, a, _, 2, _, rfl, rfl, .of ha, rfl, _, rfl, _, rfl, l, L.map nv, at_, nv st, rfl, rfl, .of hL, atI_nat (by rw [List.getElem?_map, gst]; rfl), r, rs, st, _, rfl, rfl, .of hr2, atI_nat e1, qa, _, 1, _, rfl, rfl, .of e2, rfl, e, rfl, ⟨es, .of e3⟩, ?_⟩
      have hE0 : ∀ (x : Nat) (en : W × Nat), (M.ents st)[x]? = some en → ∃ q : Addr, es[x]? = some (L2.V.ref q) ∧ H' q = some (.tup [.str (S en.1), .int en.2]) := fun x en h => en_at e4 h
      have les : es.length = (M.ents st).length := by rw [e4.length, List.length_map]
      refine for_tup (fun i σ H'' => ∃ (R : List Nat) (a1 a2 : Option L2.V), σ = [some (.ref a), some (.ref l), some (.ref d), some (.int at_), a1, a2] ∧ Same H H'' ∧ (∀ b xs, H' b = some (.tup xs) → H'' b = some (.tup xs)) ∧ H'' l = some (.lst ((L ++ R).map nv)) ∧ H'' d = some (.dK ((L ++ R).map nk)) ∧ RInv M (L ++ R) ∧ ∀ j en, j < i → (M.ents st)[j]? = some en → en.2 ∈ L ++ R)
        ⟨[], a1, a2, rfl, sm, fun _ _ z => z, by rw [List.append_nil]; exact hL, by rw [List.append_nil]; exact hd, by rw [List.append_nil]; exact hI, fun j en hj => absurd hj (Nat.not_lt_zero _)⟩ (fun i σ H'' _ ⟨_, _, _, _, _, ts, _⟩ => .of (ts _ _ e3)) ?_ ?_
      · rintro i x σ H2 hx ⟨R, b1, b2, rfl, sm2, ts, hL2, hd2, hI2, hcov⟩
        have hil : i < (M.ents st).length := by rw [← les]; exact (List.getElem?_eq_some_iff.mp hx).1
        have gen : (M.ents st)[i]? = some (M.ents st)[i] := List.getElem?_eq_getElem hil
        generalize (M.ents st)[i] = en at gen
        obtain ⟨q', ge, he⟩ := hE0 i en gen
        rw [hx] at ge
        cases ge
        refine ⟨q', _, rfl, .of (ts _ _ he), rfl, _, _, rfl, _, _, rfl, rfl, ?_⟩
        refine ⟨_, rfl, _, rfl, d, _, rfl, DGet.k (k := .inl (en.2 : Int)) hd2, _, rfl, ?_⟩
        rw [nk_some]
        have cov : ∀ R', R' = L ++ R ++ [en.2] ∨ R' = L ++ R → en.2 ∈ R' → ∀ j en', j < i + 1 → (M.ents st)[j]? = some en' → en'.2 ∈ R' := fun R' hR hm j en' hj h => by
          rcases Nat.lt_succ_iff_lt_or_eq.mp hj with hj | rfl
          · rcases hR with rfl | rfl
            · exact List.mem_append_left _ (hcov j en' hj h)
            · exact hcov j en' hj h
          · rw [gen] at h
            cases h
            exact hm
        by_cases hin : en.2 ∈ L ++ R
        · refine ifF (by rw [decide_eq_true hin]; rfl) ⟨R, _, _, rfl, sm2, ts, hL2, hd2, hI2, cov _ (.inr rfl) hin⟩
        · refine ifT (by rw [decide_eq_false hin]; rfl) ?_
          have hlen := states_len hv hI2.nd hI2.re
          refine ⟨_, rfl, _, rfl, d, _, rfl, DPut.k (k := .inl (en.2 : Int)) hd2 (by rw [List.length_map]; exact line_lt (by omega)), ?_⟩
          rw [nk_put hin]
          have nl0 : H l = none := nl
          have hL3 : (upd H2 d (.dK ((L ++ R ++ [en.2]).map nk))) l = some (.lst ((L ++ R).map nv)) := by rw [upd_ne nld]; exact hL2
          refine ⟨.ref l, rfl, .inl ⟨rfl, _, .of hL3⟩, _, rfl, l, _, _, rfl, rfl, hL3, by rw [List.length_map]; exact line_lt (by omega), ?_⟩
          refine ⟨R ++ [en.2], _, _, rfl, same_set (same_set sm2 nd0) nl0, fun b xs z => ts_lst hL3 b xs (ts_dK hd2 b xs (ts b xs z)), ?_, ?_, ?_, ?_⟩
          · rw [upd_same, ← List.append_assoc, List.map_append (l₂ := [en.2])]
            rfl
          · rw [upd_ne nld.symm, upd_same, ← List.append_assoc]
          · rw [← List.append_assoc]
            exact rinv_snoc hI2 hin (get_app gst) (List.mem_of_getElem? gen) rfl
          · rw [← List.append_assoc]
            exact cov _ (.inl rfl) (List.mem_append_right _ List.mem_cons_self)
      · rintro σ H2 ⟨R, b1, b2, rfl, sm2, ts, hL2, hd2, hI2, hcov⟩
        refine ⟨_, rfl, _, _, rfl, rfl, L ++ R, b1, b2, rfl, sm2, hL2, hd2, hI2, by rw [List.length_append]; omega, fun j p hj hp en hen => ?_⟩
        rcases Nat.lt_succ_iff_lt_or_eq.mp hj with hj | rfl
        · exact clo_app hc hat j p hj hp en hen
        · rw [get_app gst] at hp
          cases hp
          obtain ⟨j, hj⟩ := List.mem_iff_getElem?.mp hen
          exact hcov j en (by rw [les]; exact (List.getElem?_eq_some_iff.mp hj).1) hj
    · have c := of_decide_eq_false c
      have hat2 : at_ = L.length := by omega
      rw [hat2] at hc
      exact ⟨_, rfl, q L (states_of hI hc) l _ H' sm nl hL (dats_nv _ _)⟩
theorem ok_first_word_to (T : Tx K mg) : FnOk P w K mg base CX0 2 T.f_first_word_to T.d_first_word_to ["machine", "state"] (sp_first_word_to) := by
  obtain ⟨tLET, gLET⟩ := T.LETTERS
  refine T.F_first_word_to.ok sc_first_word_to (fun vs H Q E h => ?_) (fun cdv A outer s H vs Q E hr h => ?_)
  · obtain ⟨v, M, s, rfl, _⟩ := h
    rfl
  · obtain ⟨v, M, s0, rfl, m, hre, q⟩ := h
    have hv := m.1
    have hn3 := hv.n3
    have hk3 := hv.k3
    refine ⟨_, PSs.nox (pss_cons (ps_set (i := 2) sc_first_word_to.nd rfl (by first | exact .inl rfl | exact .inr rfl) (pe_disp (pps_cons pe_int pe_str pps_nil) (by rfl) rfl (by simp) (by decide))) (pss_cons (ps_for PassesOwn.never rfl (pi_list (pe_call (ok_reached_states T) (hr.mono (by decide)) rfl T.g_reached_states T.F_reached_states.kp T.b_reached_states .nil pass0 (pa_cons (pv 0) pa_nil))) (pg_name (i := 3) sc_first_word_to.nd rfl (by first | exact .inl rfl | exact .inr rfl)) (pss_one (ps_for PassesOwn.never rfl (pi_zipST (by rfl) T.n_zip (pa_cons (pe_glob (v := .str "abcdef") rfl gLET ⟨tLET, rfl⟩) (pa_cons (pe_ix ix_tup (pe_ix ix_tup (pe_ix ix_tup (pv 0) pe_int (fun _ _ => rfl)) (pv 3) (fun _ _ => rfl)) pe_int (fun _ _ => rfl)) pa_nil))) (pg_tup (n := 2) rfl (pgs_cons (pg_name (i := 4) sc_first_word_to.nd rfl (by first | exact .inl rfl | exact .inr rfl)) (pgs_cons (pg_tup (n := 2) rfl (pgs_cons (pg_name (i := 5) sc_first_word_to.nd rfl (by first | exact .inl rfl | exact .inr rfl)) (pgs_cons (pg_name (i := 6) sc_first_word_to.nd rfl (by first | exact .inl rfl | exact .inr rfl)) pgs_nil))) pgs_nil))) (pss_one (ps_if (pt_cmp (pc_dnotin (room1 hr) (pv 6) (pv 2))) (pss_one (ps_dput (room1 hr) (pv 2) (pv 6) (pe_op op_add_str (pe_dget (room1 hr) (pv 2) (pv 3) (fun _ _ => rfl)) (pv 4)) rfl)) pss_nil))))) (pss_one (ps_ret (pe_dget (room1 hr) (pv 2) (pv 1) (fun _ _ => rfl)))))), ?_⟩
    refine fun d nd => ⟨upd_same, [(.inl 0, .str "")], rfl, by decide, ?_⟩
    have s1 := same_new (o := .dK []) (Same.refl H) nd
    have s2 := same_set (o := .dK (mergeK [] [(Sum.inl 0, V.str "")])) s1 nd
    obtain ⟨H2, eH2⟩ : ∃ H2, H2 = upd (upd H d (.dK [])) d (.dK (mergeK [] [(Sum.inl 0, V.str "")])) := ⟨_, rfl⟩
    have hd2 : H2 d = some (.dK ([((0, []) : SW)].map wk)) := by
      rw [eH2, upd_same]
      show some (HO.dK [(Sum.inl 0, V.str "")]) = some (HO.dK [(Sum.inl 0, V.str (S []))])
      rw [S_nil]
    rw [← eH2] at s2 ⊢
    clear eH2 s1
    refine ⟨_, rfl, v, M, rfl, m.same s2, fun L hS l xs H3 s3 nl hL hx => ?_⟩
    have hx2 : xs = L.map nv := by
      have go : ∀ (L : List Nat) (xs : List L2.V), Dats H3 xs (L.map natD) → xs = L.map nv := by
        intro L
        induction L with
        | nil => intro xs h; cases h; rfl
        | cons s L ih =>
          intro xs h
          cases h with
          | cons a b =>
            rw [ih _ b, a.int_inv]
            rfl
      exact go L xs hx
    subst hx2
    have sm0 := s2.trans s3
    have smf : Same H H3 := sm0
    have nd2 := nd
    refine ⟨l, rfl, ⟨_, .of hL⟩, for_list (fun i σ H' => ∃ (ws : List SW) (a1 a2 a3 a4 : Option L2.V), σ = [some v, some (.int s0), some (.ref d), a1, a2, a3, a4] ∧ Same H H' ∧ H' l = some (.lst (L.map nv)) ∧ H' d = some (.dK (ws.map wk)) ∧ WInv M ws ∧ ∀ j p, j < i → L[j]? = some p → ∀ e ∈ M.ents p, e.2 ∈ ws.map (·.1))
      ⟨[(0, [])], none, none, none, none, rfl, smf, hL, s3 _ _ hd2, winv_zero M, fun j p hj => absurd hj (Nat.not_lt_zero _)⟩ (fun i σ H' _ ⟨_, _, _, _, _, _, _, h, _⟩ => .of h) ?_ ?_⟩
    · rintro i x σ H4 hx ⟨ws, a1, a2, a3, a4, rfl, sm, hL4, hd4, hI, hcov⟩
      rw [List.getElem?_map] at hx
      obtain ⟨st, gst, rfl⟩ := Option.map_eq_some_iff.mp hx
      have hst := reach_lt hv ((hS.all st).mp (List.mem_of_getElem? gst))
      have hin : st ∈ ws.map (·.1) := by
        rcases hS.ord i st gst with rfl | ⟨j, p, en, h1, h2, h3, h4⟩
        · exact hI.z
        · rw [← h4]
          exact hcov j p h1 h2 en h3
      obtain ⟨a, r, rs, rfl, ha, hr2, lr, row⟩ := mach_at (m.same sm)
      obtain ⟨qa, e, es, e1, e2, e3, e4⟩ := row st hst
      have les : es.length = M.k := by rw [e4.length, List.length_map, ents_len hv hst]
      refine ⟨_, rfl, a, _, 2, _, rfl, rfl, .of ha, rfl, _, rfl, r, rs, st, _, rfl, rfl, .of hr2, atI_nat e1, qa, _, 1, _, rfl, rfl, .of e2, rfl, _, e, _, rfl, .of e3, ?_⟩
      refine for_it (walk_zipST (n := M.k) (by rw [les]; show M.k = min 6 M.k; omega)) (fun j σ H' => ∃ (ws' : List SW) (b2 b3 b4 : Option L2.V), σ = [some (.ref a), some (.int s0), some (.ref d), some (nv st), b2, b3, b4] ∧ Same H H' ∧ TS H4 H' ∧ H' l = some (.lst (L.map nv)) ∧ H' d = some (.dK (ws'.map wk)) ∧ WInv M ws' ∧ (∀ t ∈ ws.map (·.1), t ∈ ws'.map (·.1)) ∧ ∀ j' en, j' < j → (M.ents st)[j']? = some en → en.2 ∈ ws'.map (·.1))
        ⟨ws, a2, a3, a4, rfl, sm, TS.refl _, hL4, hd4, hI, fun _ z => z, fun j' en hj => absurd hj (Nat.not_lt_zero _)⟩ (fun _ _ _ _ ⟨_, _, _, _, _, _, ts, _⟩ => .of (ts _ _ e3)) ?_ ?_
      · rintro j y σ H5 H5' hj ⟨ws', b2, b3, b4, rfl, sm5, ts, hL5, hd5, hI5, hsub, hcov5⟩ ⟨tt, c, y', rfl, nt, rfl, hc, hy⟩
        have hil : j < (M.ents st).length := by rw [ents_len hv hst]; exact hj
        have gen : (M.ents st)[j]? = some (M.ents st)[j] := List.getElem?_eq_getElem hil
        generalize (M.ents st)[j] = en at gen
        obtain ⟨q', ge, he⟩ := en_at e4 gen
        rw [hy] at ge
        cases ge
        have hc2 : c = 97 + j := by
          have : j = 0 ∨ j = 1 ∨ j = 2 := by omega
          rcases this with rfl | rfl | rfl <;> exact (Option.some.inj hc).symm
        subst hc2
        have hcl : 97 ≤ 97 + j ∧ 97 + j < 97 + M.k := by omega
        have een : M.ent st (97 + j) = en := by
          have := ent_get hv hst hcl
          rw [Nat.add_sub_cancel_left, gen] at this
          exact (Option.some.inj this).symm
        have s6 := same_new (o := .tup [.str ⟨#[97 + j]⟩, .ref q']) sm5 nt
        have nlt := ne_of_none hL5 nt
        have ndt := ne_of_none hd5 nt
        have hd6 : (upd H5 tt (.tup [.str ⟨#[97 + j]⟩, .ref q'])) d = some (.dK (ws'.map wk)) := by rw [upd_ne ndt]; exact hd5
        have hL6 : (upd H5 tt (.tup [.str ⟨#[97 + j]⟩, .ref q'])) l = some (.lst (L.map nv)) := by rw [upd_ne nlt]; exact hL5
        have ts6 : TS H4 (upd H5 tt (.tup [.str ⟨#[97 + j]⟩, .ref q'])) := ts.trans (ts_new nt)
        refine ⟨tt, _, rfl, .of upd_same, rfl, _, _, rfl, _, _, rfl, ⟨q', _, rfl, .of (ts6 _ _ he), rfl, _, _, rfl, _, _, rfl, rfl, rfl, ?_⟩⟩
        refine ⟨_, rfl, _, rfl, d, _, rfl, DGet.k (k := .inl (en.2 : Int)) hd6, _, rfl, ?_⟩
        rw [wk_some]
        by_cases hm : en.2 ∈ ws'.map (·.1)
        · refine ifF (by rw [decide_eq_true hm]; rfl) ⟨ws', _, _, _, rfl, s6, ts6, hL6, hd6, hI5, hsub, fun j' en' hj' h => ?_⟩
          rcases Nat.lt_succ_iff_lt_or_eq.mp hj' with hj' | rfl
          · exact hcov5 j' en' hj' h
          · rw [gen] at h
            cases h
            exact hm
        · refine ifT (by rw [decide_eq_false hm]; rfl) ?_
          obtain ⟨x0, hx0, gx⟩ := wk_get (hsub st hin)
          obtain ⟨o1, o2, o3⟩ := hI5.ok _ hx0
          have wl := winv_len hv hI5
          refine ⟨_, rfl, _, rfl, d, _, rfl, (by rw [← gx]; exact DGet.k (k := .inl (st : Int)) hd6), _, rfl, S x0, _, rfl, rfl, line_big (by rw [S_len]; show x0.length + 1 ≤ _; have o3 : x0.length + 1 ≤ ws'.length := o3; omega), ?_⟩
          rw [show (⟨#[97 + j]⟩ : Str) = S [97 + j] from rfl, S_app]
          refine ⟨_, rfl, _, rfl, d, _, rfl, DPut.k (k := .inl (en.2 : Int)) hd6 (by rw [List.length_map]; exact line_lt (by omega)), ?_⟩
          rw [wk_put hm]
          have nld : l ≠ d := ne_of hL6 hd6 fun z => nomatch z
          refine ⟨ws' ++ [(en.2, x0 ++ [97 + j])], _, _, _, rfl, same_set s6 nd2, ts6.trans (ts_dK hd6), by rw [upd_ne nld]; exact hL6, upd_same, ?_, ?_, ?_⟩
          · have := winv_snoc hv hI5 hx0 hcl (by rw [een]; exact hm)
            rwa [een] at this
          · intro t ht
            rw [List.map_append]
            exact List.mem_append_left _ (hsub t ht)
          · intro j' en' hj' h
            rw [List.map_append]
            rcases Nat.lt_succ_iff_lt_or_eq.mp hj' with hj' | rfl
            · exact List.mem_append_left _ (hcov5 j' en' hj' h)
            · rw [gen] at h
              cases h
              exact List.mem_append_right _ List.mem_cons_self
      · rintro σ H5 ⟨ws', b2, b3, b4, rfl, sm5, ts, hL5, hd5, hI5, hsub, hcov5⟩
        refine ⟨ws', _, _, _, _, rfl, sm5, hL5, hd5, hI5, fun j p hj hp en hen => ?_⟩
        rcases Nat.lt_succ_iff_lt_or_eq.mp hj with hj | rfl
        · exact hsub _ (hcov j p hj hp en hen)
        · rw [gst] at hp
          cases hp
          obtain ⟨j, hj⟩ := List.mem_iff_getElem?.mp hen
          have := (List.getElem?_eq_some_iff.mp hj).1
          rw [ents_len hv hst] at this
          exact hcov5 j en this hj
    · rintro σ H4 ⟨ws, a1, a2, a3, a4, rfl, sm, hL4, hd4, hI, hcov⟩
      have hin : s0 ∈ ws.map (·.1) := by
        obtain ⟨i, hi⟩ := List.mem_iff_getElem?.mp ((hS.all s0).mpr hre)
        rcases hS.ord i s0 hi with rfl | ⟨j, p, en, h1, h2, h3, h4⟩
        · exact hI.z
        · rw [← h4]
          exact hcov j p (by rw [List.length_map]; exact (List.getElem?_eq_some_iff.mp h2).1) h2 en h3
      obtain ⟨x0, hx0, gx⟩ := wk_get hin
      obtain ⟨o1, o2, o3⟩ := hI.ok _ hx0
      have wl := winv_len hv hI
      have o3 : x0.length + 1 ≤ ws.length := o3
      refine ⟨_, rfl, _, rfl, d, _, rfl, (by rw [← gx]; exact DGet.k (k := .inl (s0 : Int)) hd4), q x0 o1 o2 (by omega) _ sm⟩
end
end K67


/-! K1Keep: heaps of which but one list is kept; slices; what a search's beginnings cover. -/
namespace K67
open PySem PySem.Spec PyProof.Rows L2
/-- all but l -/
def Kp (l : Addr) (H H' : Hp) : Prop := ∀ b u, b ≠ l → H b = some u → H' b = some u
theorem Kp.refl (l : Addr) (H : Hp) : Kp l H H := fun _ _ _ e => e
theorem Kp.trans {l : Addr} {H H1 H2 : Hp} (a : Kp l H H1) (b : Kp l H1 H2) : Kp l H H2 := fun c u n e => b c u n (a c u n e)
theorem Kp.same {l : Addr} {H H1 H2 : Hp} (a : Kp l H H1) (b : Same H1 H2) : Kp l H H2 := fun c u n e => b c u (a c u n e)
theorem Kp.new {l : Addr} {H H1 : Hp} {p : Addr} {o : HO} (a : Kp l H H1) (h : H1 p = none) : Kp l H (upd H1 p o) := a.same (same_new (Same.refl _) h)
theorem Kp.put {l : Addr} {H H1 : Hp} {o : HO} (a : Kp l H H1) : Kp l H (upd H1 l o) := fun c u n e => by
  rw [upd_ne n]
  exact a c u n e
theorem Kp.ts {l : Addr} {H H1 : Hp} {xs : List V} (a : Kp l H H1) (h : H l = some (.lst xs)) : TS H H1 := fun b ys e => a b _ (ne_of e h fun q => nomatch q) e
theorem Kp.to_same {l : Addr} {H0 H H1 : Hp} (s : Same H0 H) (h : H0 l = none) (a : Kp l H H1) : Same H0 H1 := fun b u e => a b u (ne_of_none e h) (s b u e)
theorem Kp.free {l : Addr} {H H1 : Hp} {p : Addr} (a : Kp l H H1) (h : H1 p = none) (n : p ≠ l) : H p = none := by
  cases e : H p with
  | none => rfl
  | some u =>
    rw [a p u n e] at h
    cases h
theorem cutV_drop (xs : List V) (k : Nat) : cutV xs (some (k : Int)) none = xs.drop k := by
  unfold cutV
  rw [HT.sIx_none, HT.sIx_nat]
  rw [Nat.min_def]
  split
  · rw [List.take_of_length_le (by rw [List.length_drop]; exact Nat.le_refl _)]
  · rw [List.drop_of_length_le (by omega), List.drop_of_length_le (by omega)]
    simp
theorem cutV_at (xs : List V) (k : Nat) : cutV xs (some ((k : Int) + 1)) none = xs.drop (k + 1) := cutV_drop xs (k + 1)
theorem ref_non (a : Addr) : decide (V.ref a = V.non) = false := decide_eq_false fun h => nomatch h
theorem non_non : decide (V.non = V.non) = true := decide_eq_true rfl

/-! ### beginnings -/
def plOf (q : Bg) : Pl := q.2.2.2
def SInv (M : Mach) (L : List Bg) : Prop := ∀ q ∈ L, Reach M q.1 ∧ IsStart M q.1 q.2.1 q.2.2.1 q.2.2.2
def Cov (M : Mach) (st a b : Nat) (L : List Pl) : Prop := ∀ ma mb r, (moves M st)[a]? = some ma → (moves M st)[b]? = some mb → rest ma.2.1 mb.2.1 = some r → (⟨ma.2.2, mb.2.2, r.1, r.2⟩ : Pl) ∈ L
theorem cov_app {M : Mach} {st a b : Nat} {L R : List Pl} (h : Cov M st a b L) : Cov M st a b (L ++ R) := fun ma mb r h1 h2 h3 => List.mem_append_left _ (h ma mb r h1 h2 h3)
theorem cov_start {M : Mach} {st : Nat} {l1 l2 : W} {p : Pl} {L : List Pl} (h : ∀ a b, a < b → Cov M st a b L) (hp : IsStart M st l1 l2 p) : p ∈ L := by
  obtain ⟨i, j, a, b, hij, ha, hb, e1, e2, e3, e4, e5⟩ := hp
  have := h i j hij a b _ ha hb e5
  have e : p = ⟨a.2.2, b.2.2, p.x, p.y⟩ := by
    cases p
    simp at e3 e4
    rw [e3, e4]
  rw [e]
  exact this
theorem moves_len {M : Mach} (V : Valid M) {s : Nat} (h : s < M.rows.length) : (moves M s).length = M.k + 1 := by
  unfold moves
  simp [ents_len V h]
theorem sinv_snoc {M : Mach} {L : List Bg} (I : SInv M L) {st a b : Nat} {ma mb : Move} {r : W × W} (hre : Reach M st) (hab : a < b) (ha : (moves M st)[a]? = some ma) (hb : (moves M st)[b]? = some mb) (hr : rest ma.2.1 mb.2.1 = some r) :
    SInv M (L ++ [(st, ma.1, mb.1, ⟨ma.2.2, mb.2.2, r.1, r.2⟩)]) := fun q hq => by
  rcases List.mem_append.mp hq with hq | hq
  · exact I q hq
  · have e : q = (st, ma.1, mb.1, ⟨ma.2.2, mb.2.2, r.1, r.2⟩) := by simpa using hq
    subst e
    exact ⟨hre, a, b, ma, mb, hab, ha, hb, rfl, rfl, rfl, rfl, hr⟩
theorem snoc_go {f : Move → Option Go} {l : List Move} {i : Nat} {m : Move} (h : l[i]? = some m) : (l.take (i + 1)).filterMap f = (l.take i).filterMap f ++ (match f m with | some g => [g] | none => []) := by
  rw [List.take_add_one, h, List.filterMap_append]
  congr 1
  cases e : f m with
  | none => simp [List.filterMap, e]
  | some g => simp [List.filterMap, e]
/-! ### dicts by places -/
theorem putP_mem {kvs : List PKV} {p : Pl} {b : Addr} {v : V} (q : Pl) : q ∈ (putP kvs p b v).map (·.1) ↔ q ∈ kvs.map (·.1) ∨ q = p := by
  cases h : valP kvs p with
  | none =>
    rw [putP_new h, List.map_append, List.mem_append]
    simp
  | some z =>
    have h2 : (valP kvs p).isSome = true := by rw [h]; rfl
    rw [(putP_keys_old (b := b) (v := v) h2).1]
    constructor
    · exact .inl
    · rintro (h3 | rfl)
      · exact h3
      · exact valP_some.mp h2
theorem putP_nd {kvs : List PKV} {p : Pl} {b : Addr} {v : V} (h : (kvs.map (·.1)).Nodup) : ((putP kvs p b v).map (·.1)).Nodup := by
  cases e : valP kvs p with
  | none =>
    rw [putP_new e, List.map_append, List.nodup_append]
    refine ⟨h, by simp, fun a ha c hc => ?_⟩
    have : c = p := by simpa using hc
    subst this
    rintro rfl
    exact valP_none.mp e ha
  | some z =>
    rw [(putP_keys_old (b := b) (v := v) (by rw [e]; rfl)).1]
    exact h
theorem keys_dats {H : Hp} : ∀ {kvs : List PKV}, KeysIn H kvs → Dats H (kvs.map fun q => .ref q.2.1) ((kvs.map (·.1)).map plD)
  | [], _ => .nil
  | q :: kvs, h => .cons (h q List.mem_cons_self) (keys_dats fun r hr => h r (List.mem_cons_of_mem _ hr))
theorem val_mem (kvs : List PKV) (p : Pl) : (valP kvs p).isSome = decide (p ∈ kvs.map (·.1)) := by
  rw [Bool.eq_iff_iff, decide_eq_true_iff]
  exact valP_some
end K67

/-! K4e: beginnings and what follows. -/
namespace K67
open PySem PySem.Spec PyProof.Rows L2
section
variable {P : Program} {w : World} {K : PySem.W.Frag} {mg : Str → Option Value} {base : Heap}
theorem ok_going (T : Tx K mg) : FnOk P w K mg base CX0 3 T.f_going T.d_going ["machine", "place"] (sp_going) := by
  obtain ⟨tEND, gEND⟩ := T.END
  refine T.F_going.ok sc_going (fun vs H Q E h => ?_) (fun cdv A outer s H vs Q E hr h => ?_)
  · obtain ⟨v, M, u, p, rfl, _⟩ := h
    rfl
  · obtain ⟨v, M, u, p, rfl, m, d, ok, q⟩ := h
    have hv := m.1
    have hk3 := hv.k3
    refine ⟨_, PSs.nox (pss_cons (ps_asg (pv 1) (pg_tup (n := 3) rfl (pgs_cons (pg_name (i := 2) sc_going.nd rfl (by first | exact .inl rfl | exact .inr rfl)) (pgs_cons (pg_name (i := 3) sc_going.nd rfl (by first | exact .inl rfl | exact .inr rfl)) (pgs_cons (pg_tup (n := 2) rfl (pgs_cons (pg_name (i := 4) sc_going.nd rfl (by first | exact .inl rfl | exact .inr rfl)) (pgs_cons (pg_name (i := 5) sc_going.nd rfl (by first | exact .inl rfl | exact .inr rfl)) pgs_nil))) pgs_nil))))) (pss_cons (ps_set (i := 6) sc_going.nd rfl (by first | exact .inl rfl | exact .inr rfl) (pe_lst pa_nil)) (pss_cons (ps_if (PW.pt (pw_or (pt_cmpR op_ne (pv 5) pe_str (nomark _)) (pw_or1 (PW.pt (pw_and (pt_cmpR op_eq (pv 4) pe_str (nomark _)) (pw_and1 (pt_cmpR op_ne (pv 2) (pe_glob (v := .int (-1)) rfl gEND ⟨tEND, rfl⟩) (nomark _)))))))) (pss_one (ps_if (pt_cmpR op_ne (pv 2) (pe_glob (v := .int (-1)) rfl gEND ⟨tEND, rfl⟩) (nomark _)) (pss_one (ps_for PassesOwn.never rfl (pi_list (pe_call (ok_moves T) (hr.mono (by decide)) rfl T.g_moves T.F_moves.kp T.b_moves .nil pass0 (pa_cons (pv 0) (pa_cons (pv 2) pa_nil)))) (pg_tup (n := 3) rfl (pgs_cons (pg_name (i := 7) sc_going.nd rfl (by first | exact .inl rfl | exact .inr rfl)) (pgs_cons (pg_name (i := 8) sc_going.nd rfl (by first | exact .inl rfl | exact .inr rfl)) (pgs_cons (pg_name (i := 9) sc_going.nd rfl (by first | exact .inl rfl | exact .inr rfl)) pgs_nil)))) (pss_cons (ps_set (i := 10) sc_going.nd rfl (by first | exact .inl rfl | exact .inr rfl) (pe_call (ok_rest_of T) (hr.mono (by decide)) rfl T.g_rest_of T.F_rest_of.kp T.b_rest_of .nil pass0 (pa_cons (pe_op op_add_str (pv 4) (pv 8)) (pa_cons (pv 5) pa_nil)))) (pss_one (ps_if (pt_cmpR op_notN (pv 10) pe_non (nomark _)) (pss_one (ps_expr (pe_bm PySem.F.plainAttrs_list PySem.F.slot_list_append PySem.F.type_list_append mt_append (pv 6) (pa_cons (pe_tup (pa_cons (pv 7) (pa_cons pe_str (pa_cons (pe_tup (pa_cons (pv 9) (pa_cons (pv 3) (pa_cons (pv 10) pa_nil)))) pa_nil)))) pa_nil)))) pss_nil))))) pss_nil)) (pss_one (ps_if (pt_cmpR op_ne (pv 3) (pe_glob (v := .int (-1)) rfl gEND ⟨tEND, rfl⟩) (nomark _)) (pss_one (ps_for PassesOwn.never rfl (pi_list (pe_call (ok_moves T) (hr.mono (by decide)) rfl T.g_moves T.F_moves.kp T.b_moves .nil pass0 (pa_cons (pv 0) (pa_cons (pv 3) pa_nil)))) (pg_tup (n := 3) rfl (pgs_cons (pg_name (i := 7) sc_going.nd rfl (by first | exact .inl rfl | exact .inr rfl)) (pgs_cons (pg_name (i := 8) sc_going.nd rfl (by first | exact .inl rfl | exact .inr rfl)) (pgs_cons (pg_name (i := 9) sc_going.nd rfl (by first | exact .inl rfl | exact .inr rfl)) pgs_nil)))) (pss_cons (ps_set (i := 10) sc_going.nd rfl (by first | exact .inl rfl | exact .inr rfl) (pe_call (ok_rest_of T) (hr.mono (by decide)) rfl T.g_rest_of T.F_rest_of.kp T.b_rest_of .nil pass0 (pa_cons (pv 4) (pa_cons (pe_op op_add_str (pv 5) (pv 8)) pa_nil)))) (pss_one (ps_if (pt_cmpR op_notN (pv 10) pe_non (nomark _)) (pss_one (ps_expr (pe_bm PySem.F.plainAttrs_list PySem.F.slot_list_append PySem.F.type_list_append mt_append (pv 6) (pa_cons (pe_tup (pa_cons pe_str (pa_cons (pv 7) (pa_cons (pe_tup (pa_cons (pv 2) (pa_cons (pv 9) (pa_cons (pv 10) pa_nil)))) pa_nil)))) pa_nil)))) pss_nil))))) pss_nil))) (pss_one (ps_ret (pv 6)))))), ?_⟩
    obtain ⟨pa, pb, rfl, hp, hp2⟩ := pl_inv d
    have z1 := ok.s0
    have z2 := ok.s1
    have z3 := ok.t0
    have z4 := ok.t1
    refine ⟨_, rfl, pa, _, rfl, .of hp, rfl, _, _, rfl, _, _, rfl, _, _, rfl, ⟨pb, _, rfl, .of hp2, rfl, _, _, rfl, _, _, rfl, rfl, rfl, ?_⟩⟩
    refine ⟨Nat.zero_le _, fun l nl => ?_⟩
    have s1 := same_new (o := .lst []) (Same.refl H) nl
    -- the way of the first copy, of the second
    have wayF : isF p = true → tIfS (tTest (tOp rNe (tVar 2) (tC (.int (-1))))) (tFor (iList K (tCall sp_moves [] E0 (tCons (tVar 0) (tCons (tVar 2) tNil)))) (gTup K 3 (gCons (gName 7) (gCons (gName 8) (gCons (gName 9) gNil))))
        (tSeq (tAsg (tCall sp_rest_of [] E0 (tCons (tOp (fun x y H Q => ∃ i j, x = V.str i ∧ y = V.str j ∧ i.length + j.length ≤ sizeLine ∧ Q (.str (i ++ j)) H) (tVar 4) (tVar 8)) (tCons (tVar 5) tNil))) (gName 10))
          (tIfS (tTest (tOp (fun x y H Q => y = V.non ∧ Q (.bl (!decide (x = .non))) H) (tVar 10) (tC .non)))
            (tDrop (tBM K "list" rAppend (tVar 6) (tCons (tTup (tCons (tVar 7) (tCons (tC (.str "")) (tCons (tTup (tCons (tVar 9) (tCons (tVar 3) (tCons (tVar 10) tNil)))) tNil)))) tNil))) tNext))) tNext
        { nx := fun σ' H' => tRet (tVar 6) { nx := fun _ H' => Q .non H', rt := Q } σ' H', rt := Q } [some v, some (.ref pa), some (.int p.s), some (.int p.t), some (.str (S p.x)), some (.str (S p.y)), some (.ref l), none, none, none, none] (upd H l (.lst [])) := by
      intro hF
      have eg : goL M p = if p.s = -1 then [] else (moves M p.s.toNat).filterMap (goF p) := by unfold goL; rw [if_pos hF]
      refine ⟨_, rfl, rfl, _, rfl, ifB (fun c => ?_) (fun c => ?_)⟩
      · have c : p.s ≠ -1 := fun e => by rw [e] at c; simp at c
        rw [if_neg c] at eg
        obtain ⟨n, hn⟩ : ∃ n : Nat, p.s = n := ⟨p.s.toNat, by omega⟩
        have hn2 : p.s.toNat = n := by omega
        rw [hn2] at eg
        have hst : n < M.rows.length := by omega
        refine ⟨_, rfl, _, rfl, v, M, n, by rw [hn]; rfl, m.same s1, hst, fun lw ws H4 s4 nlw hlw hdw => ?_⟩
        have hl4 : H4 l = some (.lst []) := s4 _ _ upd_same
        have hml := moves_len hv hst
        have lws : ws.length = (moves M n).length := by rw [hdw.length, List.length_map]
        have nlwl : lw ≠ l := fun e => by rw [e, upd_same] at nlw; cases nlw
        refine ⟨lw, rfl, ⟨_, .of hlw⟩, for_list (fun i σ H' => ∃ (xs : List L2.V) (a7 a8 a9 a10 : Option L2.V), σ = [some v, some (.ref pa), some (.int p.s), some (.int p.t), some (.str (S p.x)), some (.str (S p.y)), some (.ref l), a7, a8, a9, a10] ∧ Kp l H4 H' ∧ H' l = some (.lst xs) ∧ Dats H' xs ((((moves M n).take i).filterMap (goF p)).map goD) ∧ xs.length ≤ i)
          ⟨[], none, none, none, none, rfl, Kp.refl _ _, hl4, .nil, Nat.le_refl _⟩ (fun i σ H' _ ⟨_, _, _, _, _, _, kp, _⟩ => .of (kp _ _ nlwl hlw)) ?_ ?_⟩
        · rintro i x σ H5 hx ⟨xs, a7, a8, a9, a10, rfl, kp, hl, hd, hlen⟩
          have hi4 : i < (moves M n).length := by rw [← lws]; exact (List.getElem?_eq_some_iff.mp hx).1
          obtain ⟨dd, gd, hdd⟩ := hdw.at hx
          rw [List.getElem?_map] at gd
          obtain ⟨mm, gm, rfl⟩ := Option.map_eq_some_iff.mp gd
          obtain ⟨ma, rfl, hma⟩ := mv_inv hdd
          have mo := mv_ok hv hst (List.mem_of_getElem? gm)
          have hma5 : H5 ma = _ := kp _ _ (ne_of hma hl4 fun z => nomatch z) hma
          refine ⟨ma, _, rfl, .of hma5, rfl, _, _, rfl, _, _, rfl, _, _, rfl, rfl, ?_⟩
          have lx := ok.x2
          have ly := ok.y2
          have lm := mo.n2
          refine ⟨_, rfl, _, rfl, S p.x, S mm.2.1, rfl, rfl, line_big (by rw [S_len, S_len]; omega), _, rfl, p.x ++ mm.2.1, p.y, by rw [S_app]; rfl, by rw [List.length_append]; omega, by omega, fun rv H6 s6 dr => ?_⟩
          have kp6 := kp.same s6
          have hl6 := s6 _ _ hl
          have hd6 := hd.same s6
          refine ⟨_, rfl, rfl, _, rfl, ?_⟩
          have sn := snoc_go (f := goF p) gm
          rcases rest_inv dr with ⟨er, rfl⟩ | ⟨r, ra, er, rfl, hra⟩
          · refine ifF (by rw [non_non]; rfl) ⟨xs, _, _, _, _, rfl, kp6, hl6, ?_, by omega⟩
            have eg2 : goF p mm = none := by unfold goF; rw [er]; rfl
            rw [sn, eg2]
            simpa using hd6
          · refine ifT (by rw [ref_non]; rfl) ?_
            have eg2 : goF p mm = some (mm.1, [], ⟨mm.2.2, p.t, r.1, r.2⟩) := by unfold goF; rw [er]; rfl
            refine ⟨.ref l, rfl, .inl ⟨rfl, _, .of hl6⟩, _, rfl, _, rfl, _, rfl, _, rfl, line_big (by show 3 ≤ 16000000; decide), fun t1 nt1 => ⟨line_big (by show 3 ≤ 16000000; decide), fun t2 nt2 => ?_⟩⟩
            have hl7 : (upd (upd H6 t1 (.tup [.int mm.2.2, .int p.t, .ref ra])) t2 (.tup [.str (S mm.1), .str "", .ref t1])) l = some (.lst xs) := by rw [upd_ne (ne_of_none (by rw [upd_ne (ne_of_none hl6 nt1)]; exact hl6) nt2), upd_ne (ne_of_none hl6 nt1)]; exact hl6
            have n12 : t1 ≠ t2 := fun e => by rw [e] at nt2; rw [upd_same] at nt2; cases nt2
            have s8 := same_new (o := .tup [.str (S mm.1), .str ("" : Str), .ref t1]) (same_new (o := .tup [.int mm.2.2, .int p.t, .ref ra]) (Same.refl H6) nt1) nt2
            refine ⟨l, xs, _, rfl, rfl, hl7, line_lt (by omega), xs ++ [.ref t2], _, _, _, _, rfl, (kp6.same s8).put, upd_same, ?_, by rw [List.length_append]; simp; omega⟩
            rw [sn, eg2, List.map_append]
            refine Dats.to ?_ (ts_lst hl7)
            refine (hd6.same s8).snoc (.tup upd_same (.cons (.str _) (.cons (by rw [← S_nil]; exact .str _) (.cons (pl_mk (p := ⟨mm.2.2, p.t, r.1, r.2⟩) (by rw [upd_ne n12]; exact upd_same) (s8 _ _ hra)) .nil))))
        · rintro σ H5 ⟨xs, a7, a8, a9, a10, rfl, kp, hl, hd, hlen⟩
          refine ⟨_, rfl, q l xs H5 (Kp.to_same (s1.trans s4) nl kp) nl hl ?_⟩
          rw [lws, List.take_length] at hd
          rw [eg]
          exact hd
      · have c : p.s = -1 := by
          have c := of_decide_eq_true (by simpa using c : decide (V.int p.s = V.int (-1)) = true)
          exact V.int.inj c
        rw [if_pos c] at eg
        rw [eg] at q
        exact ⟨_, rfl, q l [] _ s1 nl upd_same .nil⟩
    have wayS : ¬ isF p = true → tIfS (tTest (tOp rNe (tVar 3) (tC (.int (-1))))) (tFor (iList K (tCall sp_moves [] E0 (tCons (tVar 0) (tCons (tVar 3) tNil)))) (gTup K 3 (gCons (gName 7) (gCons (gName 8) (gCons (gName 9) gNil))))
        (tSeq (tAsg (tCall sp_rest_of [] E0 (tCons (tVar 4) (tCons (tOp (fun x y H Q => ∃ i j, x = V.str i ∧ y = V.str j ∧ i.length + j.length ≤ sizeLine ∧ Q (.str (i ++ j)) H) (tVar 5) (tVar 8)) tNil))) (gName 10))
          (tIfS (tTest (tOp (fun x y H Q => y = V.non ∧ Q (.bl (!decide (x = .non))) H) (tVar 10) (tC .non)))
            (tDrop (tBM K "list" rAppend (tVar 6) (tCons (tTup (tCons (tC (.str "")) (tCons (tVar 7) (tCons (tTup (tCons (tVar 2) (tCons (tVar 9) (tCons (tVar 10) tNil)))) tNil)))) tNil))) tNext))) tNext
        { nx := fun σ' H' => tRet (tVar 6) { nx := fun _ H' => Q .non H', rt := Q } σ' H', rt := Q } [some v, some (.ref pa), some (.int p.s), some (.int p.t), some (.str (S p.x)), some (.str (S p.y)), some (.ref l), none, none, none, none] (upd H l (.lst [])) := by
      intro hF
      have eg : goL M p = if p.t = -1 then [] else (moves M p.t.toNat).filterMap (goS p) := by unfold goL; rw [if_neg hF]
      refine ⟨_, rfl, rfl, _, rfl, ifB (fun c => ?_) (fun c => ?_)⟩
      · have c : p.t ≠ -1 := fun e => by rw [e] at c; simp at c
        rw [if_neg c] at eg
        obtain ⟨n, hn⟩ : ∃ n : Nat, p.t = n := ⟨p.t.toNat, by omega⟩
        have hn2 : p.t.toNat = n := by omega
        rw [hn2] at eg
        have hst : n < M.rows.length := by omega
        refine ⟨_, rfl, _, rfl, v, M, n, by rw [hn]; rfl, m.same s1, hst, fun lw ws H4 s4 nlw hlw hdw => ?_⟩
        have hl4 : H4 l = some (.lst []) := s4 _ _ upd_same
        have hml := moves_len hv hst
        have lws : ws.length = (moves M n).length := by rw [hdw.length, List.length_map]
        have nlwl : lw ≠ l := fun e => by rw [e, upd_same] at nlw; cases nlw
        refine ⟨lw, rfl, ⟨_, .of hlw⟩, for_list (fun i σ H' => ∃ (xs : List L2.V) (a7 a8 a9 a10 : Option L2.V), σ = [some v, some (.ref pa), some (.int p.s), some (.int p.t), some (.str (S p.x)), some (.str (S p.y)), some (.ref l), a7, a8, a9, a10] ∧ Kp l H4 H' ∧ H' l = some (.lst xs) ∧ Dats H' xs ((((moves M n).take i).filterMap (goS p)).map goD) ∧ xs.length ≤ i)
          ⟨[], none, none, none, none, rfl, Kp.refl _ _, hl4, .nil, Nat.le_refl _⟩ (fun i σ H' _ ⟨_, _, _, _, _, _, kp, _⟩ => .of (kp _ _ nlwl hlw)) ?_ ?_⟩
        · rintro i x σ H5 hx ⟨xs, a7, a8, a9, a10, rfl, kp, hl, hd, hlen⟩
          have hi4 : i < (moves M n).length := by rw [← lws]; exact (List.getElem?_eq_some_iff.mp hx).1
          obtain ⟨dd, gd, hdd⟩ := hdw.at hx
          rw [List.getElem?_map] at gd
          obtain ⟨mm, gm, rfl⟩ := Option.map_eq_some_iff.mp gd
          obtain ⟨ma, rfl, hma⟩ := mv_inv hdd
          have mo := mv_ok hv hst (List.mem_of_getElem? gm)
          have hma5 : H5 ma = _ := kp _ _ (ne_of hma hl4 fun z => nomatch z) hma
          refine ⟨ma, _, rfl, .of hma5, rfl, _, _, rfl, _, _, rfl, _, _, rfl, rfl, ?_⟩
          have lx := ok.x2
          have ly := ok.y2
          have lm := mo.n2
          refine ⟨_, rfl, _, rfl, _, rfl, S p.y, S mm.2.1, rfl, rfl, line_big (by rw [S_len, S_len]; omega), p.x, p.y ++ mm.2.1, by rw [S_app]; rfl, by omega, by rw [List.length_append]; omega, fun rv H6 s6 dr => ?_⟩
          have kp6 := kp.same s6
          have hl6 := s6 _ _ hl
          have hd6 := hd.same s6
          refine ⟨_, rfl, rfl, _, rfl, ?_⟩
          have sn := snoc_go (f := goS p) gm
          rcases rest_inv dr with ⟨er, rfl⟩ | ⟨r, ra, er, rfl, hra⟩
          · refine ifF (by rw [non_non]; rfl) ⟨xs, _, _, _, _, rfl, kp6, hl6, ?_, by omega⟩
            have eg2 : goS p mm = none := by unfold goS; rw [er]; rfl
            rw [sn, eg2]
            simpa using hd6
          · refine ifT (by rw [ref_non]; rfl) ?_
            have eg2 : goS p mm = some ([], mm.1, ⟨p.s, mm.2.2, r.1, r.2⟩) := by unfold goS; rw [er]; rfl
            refine ⟨.ref l, rfl, .inl ⟨rfl, _, .of hl6⟩, _, rfl, _, rfl, _, rfl, _, rfl, line_big (by show 3 ≤ 16000000; decide), fun t1 nt1 => ⟨line_big (by show 3 ≤ 16000000; decide), fun t2 nt2 => ?_⟩⟩
            have hl7 : (upd (upd H6 t1 (.tup [.int p.s, .int mm.2.2, .ref ra])) t2 (.tup [.str "", .str (S mm.1), .ref t1])) l = some (.lst xs) := by rw [upd_ne (ne_of_none (by rw [upd_ne (ne_of_none hl6 nt1)]; exact hl6) nt2), upd_ne (ne_of_none hl6 nt1)]; exact hl6
            have n12 : t1 ≠ t2 := fun e => by rw [e] at nt2; rw [upd_same] at nt2; cases nt2
            have s8 := same_new (o := .tup [.str ("" : Str), .str (S mm.1), .ref t1]) (same_new (o := .tup [.int p.s, .int mm.2.2, .ref ra]) (Same.refl H6) nt1) nt2
            refine ⟨l, xs, _, rfl, rfl, hl7, line_lt (by omega), xs ++ [.ref t2], _, _, _, _, rfl, (kp6.same s8).put, upd_same, ?_, by rw [List.length_append]; simp; omega⟩
            rw [sn, eg2, List.map_append]
            refine Dats.to ?_ (ts_lst hl7)
            refine (hd6.same s8).snoc (.tup upd_same (.cons (by rw [← S_nil]; exact .str _) (.cons (.str _) (.cons (pl_mk (p := ⟨p.s, mm.2.2, r.1, r.2⟩) (by rw [upd_ne n12]; exact upd_same) (s8 _ _ hra)) .nil))))
        · rintro σ H5 ⟨xs, a7, a8, a9, a10, rfl, kp, hl, hd, hlen⟩
          refine ⟨_, rfl, q l xs H5 (Kp.to_same (s1.trans s4) nl kp) nl hl ?_⟩
          rw [lws, List.take_length] at hd
          rw [eg]
          exact hd
      · have c : p.t = -1 := by
          have c := of_decide_eq_true (by simpa using c : decide (V.int p.t = V.int (-1)) = true)
          exact V.int.inj c
        rw [if_pos c] at eg
        rw [eg] at q
        exact ⟨_, rfl, q l [] _ s1 nl upd_same .nil⟩
    have fF : p.y ≠ [] ∨ (p.x = [] ∧ p.s ≠ -1) → isF p = true := fun h => by
      unfold isF
      rcases h with h | ⟨h, h2⟩
      · rw [decide_eq_true h]; rfl
      · rw [decide_eq_true h, decide_eq_true h2]; simp
    refine ⟨_, rfl, rfl, _, rfl, ?_⟩
    refine ifB (fun c => wayF (fF (.inl fun e => ?_))) (fun c => ⟨_, rfl, rfl, _, rfl, ?_⟩)
    · rw [e, S_nil] at c
      simp at c
    · have cy : p.y = [] := S_ne_nil.mp (of_decide_eq_true (by simpa using c))
      refine ifB (fun c2 => ⟨_, rfl, rfl, _, rfl, ?_⟩) (fun c2 => ifF rfl (wayS fun hF => ?_))
      · have cx : p.x = [] := S_ne_nil.mp (of_decide_eq_true c2)
        refine ifB (fun c3 => wayF (fF (.inr ⟨cx, fun e => ?_⟩))) (fun c3 => wayS fun hF => ?_)
        · rw [e] at c3
          simp at c3
        · have c3 : p.s = -1 := V.int.inj (of_decide_eq_true (by simpa using c3))
          rcases isF_true hF with h | ⟨h, h2⟩
          · exact h cy
          · exact h2 c3
      · have cx : ¬ p.x = [] := fun e => by
          rw [e, S_nil] at c2
          simp at c2
        rcases isF_true hF with h | ⟨h, h2⟩
        · exact h cy
        · exact cx h
end
end K67


/-! K4f: starting, starts, following. -/
namespace K67
open PySem PySem.Spec PyProof.Rows L2
section
variable {P : Program} {w : World} {K : PySem.W.Frag} {mg : Str → Option Value} {base : Heap}
theorem bg_mk {H : Hp} {a b r : Addr} {st : Nat} {l1 l2 : W} {p : Pl} (h : H a = some (.tup [.int st, .str (S l1), .str (S l2), .ref b])) (h2 : H b = some (.tup [.int p.s, .int p.t, .ref r])) (h3 : H r = some (.tup [.str (S p.x), .str (S p.y)])) : Dat H (.ref a) (bgD (st, l1, l2, p)) :=
  .tup h (.cons (.int _) (.cons (.str _) (.cons (.str _) (.cons (pl_mk h2 h3) .nil))))
theorem ok_starting (T : Tx K mg) : FnOk P w K mg base CX0 3 T.f_starting T.d_starting ["machine"] (sp_starting) := by
  refine T.F_starting.ok sc_starting (fun vs H Q E h => ?_) (fun cdv A outer s H vs Q E hr h => ?_)
  · obtain ⟨v, M, rfl, _⟩ := h
    rfl
  · obtain ⟨v, M, rfl, m, q⟩ := h
    have hv := m.1
    have hn3 := hv.n3
    have hk3 := hv.k3
    refine ⟨_, PSs.nox (pss_cons (ps_set (i := 1) sc_starting.nd rfl (by first | exact .inl rfl | exact .inr rfl) (pe_lst pa_nil)) (pss_cons (ps_for PassesOwn.never rfl (pi_list (pe_call (ok_reached_states T) (hr.mono (by decide)) rfl T.g_reached_states T.F_reached_states.kp T.b_reached_states .nil pass0 (pa_cons (pv 0) pa_nil))) (pg_name (i := 2) sc_starting.nd rfl (by first | exact .inl rfl | exact .inr rfl)) (pss_cons (ps_set (i := 3) sc_starting.nd rfl (by first | exact .inl rfl | exact .inr rfl) (pe_call (ok_moves T) (hr.mono (by decide)) rfl T.g_moves T.F_moves.kp T.b_moves .nil pass0 (pa_cons (pv 0) (pa_cons (pv 2) pa_nil)))) (pss_one (ps_for PassesOwn.never rfl (pi_enum (by rfl) T.n_enumerate (pa_cons (pv 3) pa_nil)) (pg_tup (n := 2) rfl (pgs_cons (pg_name (i := 4) sc_starting.nd rfl (by first | exact .inl rfl | exact .inr rfl)) (pgs_cons (pg_tup (n := 3) rfl (pgs_cons (pg_name (i := 5) sc_starting.nd rfl (by first | exact .inl rfl | exact .inr rfl)) (pgs_cons (pg_name (i := 6) sc_starting.nd rfl (by first | exact .inl rfl | exact .inr rfl)) (pgs_cons (pg_name (i := 7) sc_starting.nd rfl (by first | exact .inl rfl | exact .inr rfl)) pgs_nil)))) pgs_nil))) (pss_one (ps_for PassesOwn.never rfl (pi_list (pe_slice sl_list (pv 3) (po_some (pe_op op_add (pv 4) pe_int)) po_none)) (pg_tup (n := 3) rfl (pgs_cons (pg_name (i := 8) sc_starting.nd rfl (by first | exact .inl rfl | exact .inr rfl)) (pgs_cons (pg_name (i := 9) sc_starting.nd rfl (by first | exact .inl rfl | exact .inr rfl)) (pgs_cons (pg_name (i := 10) sc_starting.nd rfl (by first | exact .inl rfl | exact .inr rfl)) pgs_nil)))) (pss_cons (ps_set (i := 11) sc_starting.nd rfl (by first | exact .inl rfl | exact .inr rfl) (pe_call (ok_rest_of T) (hr.mono (by decide)) rfl T.g_rest_of T.F_rest_of.kp T.b_rest_of .nil pass0 (pa_cons (pv 6) (pa_cons (pv 9) pa_nil)))) (pss_one (ps_if (pt_cmpR op_notN (pv 11) pe_non (nomark _)) (pss_one (ps_expr (pe_bm PySem.F.plainAttrs_list PySem.F.slot_list_append PySem.F.type_list_append mt_append (pv 1) (pa_cons (pe_tup (pa_cons (pv 2) (pa_cons (pv 5) (pa_cons (pv 8) (pa_cons (pe_tup (pa_cons (pv 7) (pa_cons (pv 10) (pa_cons (pv 11) pa_nil)))) pa_nil))))) pa_nil)))) pss_nil))))))))) (pss_one (ps_ret (pv 1))))), ?_⟩
    refine ⟨Nat.zero_le _, fun l nl => ?_⟩
    have s1 := same_new (o := .lst []) (Same.refl H) nl
    refine ⟨_, rfl, v, M, rfl, m.same s1, fun Ls hS lr rs H2 s2 nlr hlr hdr => ⟨lr, rfl, ⟨_, .of hlr⟩, ?_⟩⟩
    have hl2 : H2 l = some (.lst []) := s2 _ _ upd_same
    have nlrl : lr ≠ l := fun e => by rw [e, upd_same] at nlr; cases nlr
    have lrs : rs.length = Ls.length := by rw [hdr.length, List.length_map]
    have lLs := states_len hv hS.nd fun s hs => (hS.all s).mp hs
    refine for_list (fun i σ H' => ∃ (L : List Bg) (xs : List L2.V) (a2 a3 a4 a5 a6 a7 a8 a9 a10 a11 : Option L2.V), σ = [some v, some (.ref l), a2, a3, a4, a5, a6, a7, a8, a9, a10, a11] ∧ Kp l H2 H' ∧ H' l = some (.lst xs) ∧ Dats H' xs (L.map bgD) ∧ xs.length ≤ 100 * i ∧ SInv M L ∧ ∀ j st, j < i → Ls[j]? = some st → ∀ a b, a < b → Cov M st a b (L.map plOf))
      ⟨[], [], none, none, none, none, none, none, none, none, none, none, rfl, Kp.refl _ _, hl2, .nil, Nat.zero_le _, (fun q hq => absurd hq List.not_mem_nil : SInv M []), fun j st hj => absurd hj (Nat.not_lt_zero _)⟩ (fun i σ H' _ ⟨_, _, _, _, _, _, _, _, _, _, _, _, _, kp, _⟩ => .of (kp _ _ nlrl hlr)) ?_ ?_
    · rintro i x σ H3 hx ⟨L, xs, a2, a3, a4, a5, a6, a7, a8, a9, a10, a11, rfl, kp, hl, hd, hlen, hI, hcov⟩
      have hi3 : i < Ls.length := by rw [← lrs]; exact (List.getElem?_eq_some_iff.mp hx).1
      obtain ⟨dd, gd, hdd⟩ := hdr.at hx
      rw [List.getElem?_map] at gd
      obtain ⟨st, gst, rfl⟩ := Option.map_eq_some_iff.mp gd
      have ex := hdd.int_inv
      subst ex
      have hre := (hS.all st).mp (List.mem_of_getElem? gst)
      have hst := reach_lt hv hre
      have sm : Same H H3 := Kp.to_same (s1.trans s2) nl kp
      refine ⟨_, rfl, _, rfl, v, M, st, rfl, m.same sm, hst, fun lw ws H4 s4 nlw hlw hdw => ?_⟩
      have hml := moves_len hv hst
      have lws : ws.length = (moves M st).length := by rw [hdw.length, List.length_map]
      have hl4 := s4 _ _ hl
      have nlwl : lw ≠ l := fun e => by rw [e, hl] at nlw; cases nlw
      refine ⟨_, rfl, lw, ws, rfl, .of hlw, ?_⟩
      refine for_it walk_enum (fun j σ H' => ∃ (L' : List Bg) (xs' : List L2.V) (a4 a5 a6 a7 a8 a9 a10 a11 : Option L2.V), σ = [some v, some (.ref l), some (.int st), some (.ref lw), a4, a5, a6, a7, a8, a9, a10, a11] ∧ Kp l H4 H' ∧ H' l = some (.lst xs') ∧ Dats H' xs' (L'.map bgD) ∧ xs'.length ≤ 100 * i + 10 * j ∧ SInv M L' ∧ (∃ R, L' = L ++ R) ∧ ∀ a b, a < j → a < b → Cov M st a b (L'.map plOf))
        ⟨L, xs, _, _, _, _, _, _, _, _, rfl, Kp.refl _ _, hl4, hd.same s4, by omega, hI, ⟨[], (List.append_nil _).symm⟩, fun a b ha => absurd ha (Nat.not_lt_zero _)⟩ (fun j σ H' _ ⟨_, _, _, _, _, _, _, _, _, _, _, kp, _⟩ => .of (kp _ _ nlwl hlw)) ?_ ?_
      · rintro j y σ H5 H5' hj ⟨L1, xs1, a4, a5, a6, a7, a8, a9, a10, a11, rfl, kp5, hl5, hd5, hlen5, hI5, ⟨R, eR⟩, hcov5⟩ ⟨T1, x1, x2, rfl, nT, rfl, e1, e2⟩
        cases Option.some.inj e1
        have hj4 : j < (moves M st).length := by rw [← lws]; exact hj
        obtain ⟨dd, gd, hdd⟩ := hdw.at e2
        rw [List.getElem?_map] at gd
        obtain ⟨mA, gmA, rfl⟩ := Option.map_eq_some_iff.mp gd
        obtain ⟨ma, rfl, hma⟩ := mv_inv hdd
        have moA := mv_ok hv hst (List.mem_of_getElem? gmA)
        have kp6 := kp5.new (o := .tup [.int (j : Nat), .ref ma]) nT
        have hl6 : (upd H5 T1 (.tup [.int (j : Nat), .ref ma])) l = some (.lst xs1) := by rw [upd_ne (ne_of_none hl5 nT)]; exact hl5
        have hma6 := kp6 _ _ (ne_of hma hl4 fun z => nomatch z) hma
        refine ⟨T1, _, rfl, .of upd_same, rfl, _, _, rfl, _, _, rfl, ⟨ma, _, rfl, .of hma6, rfl, _, _, rfl, _, _, rfl, _, _, rfl, rfl, rfl, ?_⟩⟩
        refine ⟨_, rfl, _, rfl, _, _, rfl, rfl, _, rfl, lw, ws, rfl, .of (kp6 _ _ nlwl hlw), fun pc npc => ⟨pc, rfl, ⟨_, .of upd_same⟩, ?_⟩⟩
        rw [cutV_at]
        have kp7 := kp6.new (o := .lst (ws.drop (j + 1))) npc
        have nlp := ne_of_none hl6 npc
        have hl7 : (upd (upd H5 T1 (.tup [.int (j : Nat), .ref ma])) pc (.lst (ws.drop (j + 1)))) l = some (.lst xs1) := by rw [upd_ne nlp]; exact hl6
        obtain ⟨H7, eH7⟩ : ∃ H7, H7 = (upd (upd H5 T1 (.tup [.int (j : Nat), .ref ma])) pc (.lst (ws.drop (j + 1)))) := ⟨_, rfl⟩
        have hpc : H7 pc = some (.lst (ws.drop (j + 1))) := by rw [eH7, upd_same]
        have hd7 : Dats H7 xs1 (L1.map bgD) := by
          rw [eH7]
          exact (hd5.to (ts_new nT)).to (ts_new npc)
        rw [← eH7] at kp7 hl7 ⊢
        refine for_list (fun k σ H' => ∃ (L' : List Bg) (xs' : List L2.V) (a8 a9 a10 a11 : Option L2.V), σ = [some v, some (.ref l), some (.int st), some (.ref lw), some (.int (j : Nat)), some (.str (S mA.1)), some (.str (S mA.2.1)), some (.int mA.2.2), a8, a9, a10, a11] ∧ Kp l H7 H' ∧ H' l = some (.lst xs') ∧ Dats H' xs' (L'.map bgD) ∧ xs'.length ≤ 100 * i + 10 * j + k ∧ SInv M L' ∧ (∃ R, L' = L1 ++ R) ∧ ∀ b, b < k → Cov M st j (j + 1 + b) (L'.map plOf))
          ⟨L1, xs1, _, _, _, _, rfl, Kp.refl _ _, hl7, hd7, by omega, hI5, ⟨[], (List.append_nil _).symm⟩, fun b hb => absurd hb (Nat.not_lt_zero _)⟩ (fun k σ H' _ ⟨_, _, _, _, _, _, _, kp, _⟩ => .of (kp _ _ nlp.symm hpc)) ?_ ?_
        · rintro k y σ H8 hy ⟨L2', xs2, a8, a9, a10, a11, rfl, kp8, hl8, hd8, hlen8, hI8, ⟨R2, eR2⟩, hcov8⟩
          rw [List.getElem?_drop] at hy
          have hk4 : j + 1 + k < (moves M st).length := by rw [← lws]; exact (List.getElem?_eq_some_iff.mp hy).1
          obtain ⟨dd, gd, hdd⟩ := hdw.at hy
          rw [List.getElem?_map] at gd
          obtain ⟨mB, gmB, rfl⟩ := Option.map_eq_some_iff.mp gd
          obtain ⟨mb, rfl, hmb⟩ := mv_inv hdd
          have moB := mv_ok hv hst (List.mem_of_getElem? gmB)
          have hmb8 := (kp7.trans kp8) _ _ (ne_of hmb hl4 fun z => nomatch z) hmb
          refine ⟨mb, _, rfl, .of hmb8, rfl, _, _, rfl, _, _, rfl, _, _, rfl, rfl, ?_⟩
          have := moA.n2
          have := moB.n2
          refine ⟨_, rfl, _, rfl, mA.2.1, mB.2.1, rfl, by omega, by omega, fun rv H9 s9 dr => ⟨_, rfl, rfl, _, rfl, ?_⟩⟩
          have kp9 := kp8.same s9
          have hl9 := s9 _ _ hl8
          have hd9 := hd8.same s9
          rcases rest_inv dr with ⟨er, rfl⟩ | ⟨r, ra, er, rfl, hra⟩
          · refine ifF (by rw [non_non]; rfl) ⟨L2', xs2, _, _, _, _, rfl, kp9, hl9, hd9, by omega, hI8, ⟨R2, eR2⟩, fun b hb => ?_⟩
            rcases Nat.lt_succ_iff_lt_or_eq.mp hb with hb | rfl
            · exact hcov8 b hb
            · intro ma' mb' r' h1 h2 h3
              rw [gmA] at h1
              rw [gmB] at h2
              cases h1
              cases h2
              rw [er] at h3
              cases h3
          · refine ifT (by rw [ref_non]; rfl) ?_
            refine ⟨.ref l, rfl, .inl ⟨rfl, _, .of hl9⟩, _, rfl, _, rfl, _, rfl, _, rfl, _, rfl, _, rfl, line_big (by show 3 ≤ 16000000; decide), fun t1 nt1 => ⟨line_big (by show 4 ≤ 16000000; decide), fun t2 nt2 => ?_⟩⟩
            have hl10 : (upd (upd H9 t1 (.tup [.int mA.2.2, .int mB.2.2, .ref ra])) t2 (.tup [.int st, .str (S mA.1), .str (S mB.1), .ref t1])) l = some (.lst xs2) := by rw [upd_ne (ne_of_none (by rw [upd_ne (ne_of_none hl9 nt1)]; exact hl9) nt2), upd_ne (ne_of_none hl9 nt1)]; exact hl9
            have n12 : t1 ≠ t2 := fun e => by rw [e] at nt2; rw [upd_same] at nt2; cases nt2
            have s10 := same_new (o := .tup [.int st, .str (S mA.1), .str (S mB.1), .ref t1]) (same_new (o := .tup [.int mA.2.2, .int mB.2.2, .ref ra]) (Same.refl H9) nt1) nt2
            refine ⟨l, xs2, _, rfl, rfl, hl10, line_lt (by omega), L2' ++ [(st, mA.1, mB.1, ⟨mA.2.2, mB.2.2, r.1, r.2⟩)], xs2 ++ [.ref t2], _, _, _, _, rfl, (kp9.same s10).put, upd_same, ?_, by rw [List.length_append]; simp; omega, sinv_snoc hI8 hre (by omega) gmA gmB er, ⟨R2 ++ [(st, mA.1, mB.1, ⟨mA.2.2, mB.2.2, r.1, r.2⟩)], by rw [eR2, List.append_assoc]⟩, fun b hb => ?_⟩
            · rw [List.map_append]
              refine Dats.to ?_ (ts_lst hl10)
              exact (hd9.same s10).snoc (bg_mk (p := ⟨mA.2.2, mB.2.2, r.1, r.2⟩) upd_same (by rw [upd_ne n12]; exact upd_same) (s10 _ _ hra))
            · rw [List.map_append]
              rcases Nat.lt_succ_iff_lt_or_eq.mp hb with hb | rfl
              · exact cov_app (hcov8 b hb)
              · intro ma' mb' r' h1 h2 h3
                rw [gmA] at h1
                rw [gmB] at h2
                cases h1
                cases h2
                rw [er] at h3
                cases h3
                exact List.mem_append_right _ List.mem_cons_self
        · rintro σ H8 ⟨L2', xs2, a8, a9, a10, a11, rfl, kp8, hl8, hd8, hlen8, hI8, ⟨R2, eR2⟩, hcov8⟩
          rw [List.length_drop] at hlen8 hcov8
          refine ⟨L2', xs2, _, _, _, _, _, _, _, _, rfl, kp7.trans kp8, hl8, hd8, by omega, hI8, ⟨R ++ R2, by rw [eR2, eR, List.append_assoc]⟩, fun a b ha hab => ?_⟩
          rcases Nat.lt_succ_iff_lt_or_eq.mp ha with ha | rfl
          · rw [eR2, List.map_append]
            exact cov_app (hcov5 a b ha hab)
          · by_cases hb : b < (moves M st).length
            · have := hcov8 (b - (a + 1)) (by omega)
              rwa [show a + 1 + (b - (a + 1)) = b by omega] at this
            · intro ma' mb' r' h1 h2 h3
              rw [List.getElem?_eq_none (by omega)] at h2
              cases h2
      · rintro σ H5 ⟨L1, xs1, a4, a5, a6, a7, a8, a9, a10, a11, rfl, kp5, hl5, hd5, hlen5, hI5, ⟨R, eR⟩, hcov5⟩
        have kp3 : Kp l H2 H5 := (kp.same s4).trans kp5
        refine ⟨L1, xs1, _, _, _, _, _, _, _, _, _, _, rfl, kp3, hl5, hd5, by omega, hI5, fun j st' hj gs' a b hab => ?_⟩
        rcases Nat.lt_succ_iff_lt_or_eq.mp hj with hj | rfl
        · rw [eR, List.map_append]
          exact cov_app (hcov j st' hj gs' a b hab)
        · rw [gst] at gs'
          cases gs'
          by_cases ha : a < ws.length
          · exact hcov5 a b ha hab
          · intro ma' mb' r' h1 h2 h3
            rw [List.getElem?_eq_none (by omega)] at h1
            cases h1
    · rintro σ H3 ⟨L, xs, a2, a3, a4, a5, a6, a7, a8, a9, a10, a11, rfl, kp, hl, hd, hlen, hI, hcov⟩
      refine ⟨_, rfl, q L ⟨hI, fun st l1 l2 p hre hp => ?_⟩ l xs H3 (Kp.to_same (s1.trans s2) nl kp) nl hl hd⟩
      obtain ⟨j, hj⟩ := List.mem_iff_getElem?.mp ((hS.all st).mpr hre)
      exact cov_start (L := L.map plOf) (hcov j st (by rw [lrs]; exact (List.getElem?_eq_some_iff.mp hj).1) hj) hp
end
end K67


/-! K4g: starts, following. -/
namespace K67
open PySem PySem.Spec PyProof.Rows L2
section
variable {P : Program} {w : World} {K : PySem.W.Frag} {mg : Str → Option Value} {base : Heap}
theorem ok_starts (T : Tx K mg) : FnOk P w K mg base CX0 7 T.f_starts T.d_starts ["machine"] (sp_starts) := by
  refine T.F_starts.ok sc_starts (fun vs H Q E h => ?_) (fun cdv A outer s H vs Q E hr h => ?_)
  · obtain ⟨v, M, rfl, _⟩ := h
    rfl
  · obtain ⟨v, M, rfl, m, q⟩ := h
    have hv := m.1
    refine ⟨_, PSs.nox (pss_cons (ps_expr (pe_call (ok_check_wide T) (hr.mono (by decide)) rfl T.g_check_wide T.F_check_wide.kp T.b_check_wide .nil pass0 (pa_cons (pv 0) pa_nil))) (pss_cons (ps_set (i := 1) sc_starts.nd rfl (by first | exact .inl rfl | exact .inr rfl) pe_nnew) (pss_cons (ps_for PassesOwn.never rfl (pi_list (pe_call (ok_starting T) (hr.mono (by decide)) rfl T.g_starting T.F_starting.kp T.b_starting .nil pass0 (pa_cons (pv 0) pa_nil))) (pg_tup (n := 4) rfl (pgs_cons (pg_name (i := 2) sc_starts.nd rfl (by first | exact .inl rfl | exact .inr rfl)) (pgs_cons (pg_name (i := 2) sc_starts.nd rfl (by first | exact .inl rfl | exact .inr rfl)) (pgs_cons (pg_name (i := 2) sc_starts.nd rfl (by first | exact .inl rfl | exact .inr rfl)) (pgs_cons (pg_name (i := 3) sc_starts.nd rfl (by first | exact .inl rfl | exact .inr rfl)) pgs_nil))))) (pss_one (ps_asg pe_bl (pg_sub (pv 1) (pv 3) (set_n (room20 hr)))))) (pss_one (ps_ret (pe_callTy (call_listN rfl) rfl T.n_list boot_list (pa_cons (pv 1) pa_nil))))))), ?_⟩
    refine ⟨_, rfl, _, M, rfl, m, fun H1 s1 => fun d nd => ?_⟩
    have s2 := same_new (o := DN P w d []) s1 nd
    refine ⟨_, rfl, v, M, rfl, m.same s2, fun L hS lr rs H2 s3 nlr hlr hdr => ⟨lr, rfl, ⟨_, .of hlr⟩, ?_⟩⟩
    have nd0 : H d = none := s1.free nd
    have hd2 : H2 d = some (DN P w d []) := s3 _ _ upd_same
    have nlrd : lr ≠ d := fun e => by rw [e, upd_same] at nlr; cases nlr
    have lrs : rs.length = L.length := by rw [hdr.length, List.length_map]
    have okL : ∀ p ∈ L.map plOf, PlOk M p := fun p hp => by
      obtain ⟨q, hq, rfl⟩ := List.mem_map.mp hp
      obtain ⟨h1, h2⟩ := hS.sound q hq
      exact start_ok hv (reach_lt hv h1) h2
    refine for_list (fun i σ H' => ∃ (kvs : List PKV) (a2 a3 : Option L2.V), σ = [some v, some (.ref d), a2, a3] ∧ Kp d H2 H' ∧ H' d = some (DN P w d kvs) ∧ KeysIn H' kvs ∧ (kvs.map (·.1)).Nodup ∧ (∀ p ∈ kvs.map (·.1), p ∈ L.map plOf) ∧ ∀ j q, j < i → L[j]? = some q → plOf q ∈ kvs.map (·.1))
      ⟨[], none, none, rfl, Kp.refl _ _, hd2, keysIn_nil, List.nodup_nil, fun p hp => absurd hp List.not_mem_nil, fun j q hj => absurd hj (Nat.not_lt_zero _)⟩ (fun i σ H' _ ⟨_, _, _, _, kp, _⟩ => .of (kp _ _ nlrd hlr)) ?_ ?_
    · rintro i x σ H3 hx ⟨kvs, a2, a3, rfl, kp, hd, hk, hnd, hsub, hcov⟩
      obtain ⟨dd, gd, hdd⟩ := hdr.at hx
      rw [List.getElem?_map] at gd
      obtain ⟨qq, gq, rfl⟩ := Option.map_eq_some_iff.mp gd
      obtain ⟨ba, pp, rfl, hba, hpp⟩ := bg_inv hdd
      obtain ⟨b, br, rfl, hb1, hb2⟩ := pl_inv hpp
      have ts : TS H2 H3 := fun b ys e => kp b _ (ne_of e hd2 fun z => nomatch z) e
      refine ⟨ba, _, rfl, .of (ts _ _ hba), rfl, _, _, rfl, _, _, rfl, _, _, rfl, _, _, rfl, rfl, ?_⟩
      have hlen := few hv hnd fun p hp => okL p (hsub p hp)
      rw [List.length_map] at hlen
      have hp3 := hpp.to ts
      refine ⟨_, rfl, _, rfl, d, b, kvs, plOf qq, rfl, rfl, hd, hk, hp3, line_lt (by omega), ?_⟩
      have t4 := ts_ext (o := DN P w d (putP kvs (plOf qq) b (.bl true))) hd
      refine ⟨_, _, _, rfl, kp.put, upd_same, (keysIn_put hk hp3).to t4, putP_nd hnd, fun p hp => ?_, fun j q' hj gj => ?_⟩
      · rcases (putP_mem p).mp hp with hp | rfl
        · exact hsub p hp
        · exact List.mem_map.mpr ⟨qq, List.mem_of_getElem? gq, rfl⟩
      · rcases Nat.lt_succ_iff_lt_or_eq.mp hj with hj | rfl
        · exact (putP_mem _).mpr (.inl (hcov j q' hj gj))
        · rw [gq] at gj
          cases gj
          exact (putP_mem _).mpr (.inr rfl)
    · rintro σ H3 ⟨kvs, a2, a3, rfl, kp, hd, hk, hnd, hsub, hcov⟩
      have sm : Same H H3 := Kp.to_same (s2.trans s3) nd0 kp
      refine ⟨_, rfl, d, kvs, rfl, hd, hk, fun l nl => ?_⟩
      refine q (kvs.map (·.1)) ⟨fun p hp => ?_, fun st l1 l2 p hre hp => ?_⟩ hnd l _ _ (same_new sm nl) (sm.free nl) upd_same (keys_dats (hk.to (ts_new nl)))
      · obtain ⟨qq, hq, rfl⟩ := List.mem_map.mp (hsub p hp)
        obtain ⟨h1, h2⟩ := hS.sound qq hq
        exact ⟨_, _, _, h1, h2⟩
      · obtain ⟨qq, hq, rfl⟩ := List.mem_map.mp (hS.all st l1 l2 p hre hp)
        obtain ⟨j, hj⟩ := List.mem_iff_getElem?.mp hq
        exact hcov j qq (by rw [lrs]; exact (List.getElem?_eq_some_iff.mp hj).1) hj
theorem ok_following (T : Tx K mg) : FnOk P w K mg base CX0 7 T.f_following T.d_following ["machine", "place"] (sp_following) := by
  refine T.F_following.ok sc_following (fun vs H Q E h => ?_) (fun cdv A outer s H vs Q E hr h => ?_)
  · obtain ⟨v, M, u, p, rfl, _⟩ := h
    rfl
  · obtain ⟨v, M, u, p, rfl, m, d, ok, q⟩ := h
    have hv := m.1
    refine ⟨_, PSs.nox (pss_cons (ps_expr (pe_call (ok_check_wide T) (hr.mono (by decide)) rfl T.g_check_wide T.F_check_wide.kp T.b_check_wide .nil pass0 (pa_cons (pv 0) pa_nil))) (pss_cons (ps_expr (pe_call (ok_check_place T) (hr.mono (by decide)) rfl T.g_check_place T.F_check_place.kp T.b_check_place .nil pass0 (pa_cons (pv 0) (pa_cons (pv 1) pa_nil)))) (pss_one (ps_ret (pe_lc rfl sc_following.nd (pi_list (pe_call (ok_going T) (hr.mono (by decide)) rfl T.g_going T.F_going.kp T.b_going .nil pass0 (pa_cons (pv 0) (pa_cons (pv 1) pa_nil)))) (blkOk_by (own := [("_", 2), ("_", 2), ("found", 3)]) (by rfl)) (fun _ _ _ _ _ => (pg_tupK (K := K) (n := 3) rfl rfl (pgs_cons (pg_name (i := 2) sc_following.nd rfl (by first | exact .inl rfl | exact .inr rfl)) (pgs_cons (pg_name (i := 2) sc_following.nd rfl (by first | exact .inl rfl | exact .inr rfl)) (pgs_cons (pg_name (i := 3) sc_following.nd rfl (by first | exact .inl rfl | exact .inr rfl)) pgs_nil))))) (fun _ _ _ _ _ => pts_nil) (fun _ _ _ _ _ => (pv 3))))))), ?_⟩
    refine ⟨_, rfl, _, M, rfl, m, fun H1 s1 => ⟨_, rfl, _, rfl, v, M, u, p, rfl, m.same s1, d.same s1, ok, fun H2 s2 => ?_⟩⟩
    have s12 := s1.trans s2
    refine ⟨_, rfl, _, rfl, v, M, u, p, rfl, m.same s12, d.same s12, ok, fun lr rs H3 s3 nlr hlr hdr => ⟨lr, rfl, ⟨_, .of hlr⟩, fun D nD => ?_⟩⟩
    have lrs : rs.length = (goL M p).length := by rw [hdr.length, List.length_map]
    have hfew : (goL M p).length ≤ 100000 := by
      have h4 : ∀ (f : Move → Option Go) (s : Nat), s < M.rows.length → ((moves M s).filterMap f).length ≤ 4 := fun f s hs => by
        have h1 := List.length_filterMap_le f (moves M s)
        have h2 := moves_len hv hs
        have h3 := hv.k3
        omega
      have z1 := ok.s0
      have z2 := ok.s1
      have z3 := ok.t0
      have z4 := ok.t1
      unfold goL
      split
      · split
        · simp
        · have := h4 (goF p) p.s.toNat (by omega)
          omega
      · split
        · simp
        · have := h4 (goS p) p.t.toNat (by omega)
          omega
    refine lc_it (walk_list (xs := rs)) (LcP (fun acc H => Dats H acc (((goL M p).take acc.length).map fun g => plD g.2.2)) H3 D) (lcp_zero nD .nil) (fun i H4 _ ⟨acc, sm, _⟩ => .of (sm _ _ hlr)) (fun i y H4 H' hi ⟨acc, sm, hD, hla, ra⟩ hy => ?_) (fun H4 ⟨acc, sm, hD, hla, ra⟩ => ?_)
    · obtain ⟨rfl, hy⟩ := hy
      obtain ⟨dd, gd, hdd⟩ := hdr.at hy
      rw [List.getElem?_map] at gd
      obtain ⟨g, gg, rfl⟩ := Option.map_eq_some_iff.mp gd
      obtain ⟨ga, pp, rfl, hga, hpp⟩ := go_inv hdd
      refine ⟨ga, _, rfl, .of (sm _ _ hga), rfl, _, _, rfl, _, _, rfl, _, _, rfl, rfl, rfl, yes ⟨_, rfl, ?_⟩⟩
      refine lcp_step nD sm hD hla (by omega) ?_
      rw [List.length_append, List.length_singleton, List.take_add_one, hla, gg, List.map_append]
      have ra : Dats _ acc (((goL M p).take acc.length).map fun g => plD g.2.2) := ra
      rw [hla] at ra
      exact (ra.snoc (hpp.same sm)).to (ts_lst hD)
    · have ra : Dats H4 acc (((goL M p).take acc.length).map fun g => plD g.2.2) := ra
      rw [hla, lrs, List.take_length] at ra
      refine q D acc H4 (s12.trans (s3.trans sm)) ((s12.trans s3).free nD) hD ?_
      unfold foll
      rw [List.map_map]
      exact ra
end
end K67


/-! K4h: the search. -/
namespace K67
open PySem PySem.Spec PyProof.Rows L2
theorem str_app {H : Hp} (x y : W) : Dat H (.str (S x ++ S y)) (sD (x ++ y)) := by
  rw [S_app]
  exact .str _
theorem sf_machine (m : V) (l a : Addr) (d : V) : (sf m l a d).lookup ("machine" : Str) = some m := by kernel_rfl
theorem sf_places (m : V) (l a : Addr) (d : V) : (sf m l a d).lookup ("places" : Str) = some (.ref l) := by kernel_rfl
theorem sf_words (m : V) (l a : Addr) (d : V) : (sf m l a d).lookup ("words" : Str) = some (.ref a) := by kernel_rfl
theorem sf_done (m : V) (l a : Addr) (d : V) : (sf m l a d).lookup ("done" : Str) = some d := by kernel_rfl
theorem sf_take (m : V) (l a : Addr) (d : V) : (sf m l a d).lookup ("take" : Str) = none := by kernel_rfl
theorem sf_look (m : V) (l a : Addr) (d : V) : (sf m l a d).lookup ("look" : Str) = none := by kernel_rfl
theorem sf_put (m : V) (l a : Addr) (d z : V) : putF "done" z (sf m l a d) = sf m l a z := by kernel_rfl
theorem sf_make (m : V) (l a : Addr) : putF "done" .non (putF "words" (.ref a) (putF "places" (.ref l) (putF "machine" m []))) = sf m l a .non := by kernel_rfl
theorem Fr.refl (p l a : Addr) (H : Hp) : Fr p l a H H := fun _ _ _ _ _ e => e
theorem Fr.trans {p l a : Addr} {H H1 H2 : Hp} (x : Fr p l a H H1) (y : Fr p l a H1 H2) : Fr p l a H H2 := fun b u n1 n2 n3 e => y b u n1 n2 n3 (x b u n1 n2 n3 e)
theorem Fr.same {p l a : Addr} {H H1 H2 : Hp} (x : Fr p l a H H1) (y : Same H1 H2) : Fr p l a H H2 := fun b u n1 n2 n3 e => y b u (x b u n1 n2 n3 e)
theorem Fr.put1 {p l a : Addr} {H H1 : Hp} {o : HO} (x : Fr p l a H H1) : Fr p l a H (upd H1 p o) := fun b u n1 n2 n3 e => by rw [upd_ne n1]; exact x b u n1 n2 n3 e
theorem Fr.put2 {p l a : Addr} {H H1 : Hp} {o : HO} (x : Fr p l a H H1) : Fr p l a H (upd H1 l o) := fun b u n1 n2 n3 e => by rw [upd_ne n2]; exact x b u n1 n2 n3 e
theorem Fr.put3 {p l a : Addr} {H H1 : Hp} {o : HO} (x : Fr p l a H H1) : Fr p l a H (upd H1 a o) := fun b u n1 n2 n3 e => by rw [upd_ne n3]; exact x b u n1 n2 n3 e
theorem Fr.to_same {p l a : Addr} {H0 H H1 : Hp} (s : Same H0 H) (hp : H0 p = none) (hl : H0 l = none) (ha : H0 a = none) (x : Fr p l a H H1) : Same H0 H1 := fun b u e => x b u (ne_of_none e hp) (ne_of_none e hl) (ne_of_none e ha) (s b u e)
section
variable {P : Program} {w : World} {K : PySem.W.Frag} {mg : Str → Option Value} {base : Heap}
theorem SAt.same {C : Addr} {M : Mach} {H H' : Hp} {p l a dx : Addr} {L : List Pl} {dn : Option Wd} (x : SAt P w C M H p l a dx L dn) (s : Same H H') : SAt P w C M H' p l a dx L dn where
  ex := by
    obtain ⟨m, d, xs, kvs, h1, h2, h3, h4, h5, h6, h7, h8, h9⟩ := x.ex
    refine ⟨m, d, xs, kvs, s _ _ h1, s _ _ h2, h3.same s, s _ _ h4, h5.to (same_ts s), h6, h7.same s, ?_, fun q hq => ?_⟩
    · rcases h8 with h | ⟨q, z1, z2, z3⟩
      · exact .inl h
      · exact .inr ⟨q, z1, z2.same s, z3⟩
    · obtain ⟨wd, z1, z2⟩ := h9 q hq
      exact ⟨wd, z1.same s, z2⟩
  nd := x.nd
  ok := x.ok
  no := x.no
/-- data stand through the search's steps -/
theorem Fr.ts {C : Addr} {M : Mach} {H H' : Hp} {p l a dx : Addr} {L : List Pl} {dn : Option Wd} (x : SAt P w C M H p l a dx L dn) (f : Fr p l a H H') : TS H H' := fun b xs e => by
  obtain ⟨m, d, ys, kvs, h1, h2, h3, h4, _⟩ := x.ex
  exact f b _ (ne_of e h1 fun z => nomatch z) (ne_of e h2 fun z => nomatch z) (ne_of e h4 fun z => nomatch z) e
theorem ok_S_take (T : Tx K mg) : FnOk P w K mg base CX0 2 T.f_S_take T.d_S_take ["self", "place", "words"] (sp_S_take P w T.C) := by
  obtain ⟨tMOST_PLACES, gMOST_PLACES⟩ := T.MOST_PLACES
  refine T.F_S_take.ok sc_S_take (fun vs H Q E h => ?_) (fun cdv A outer s H vs Q E hr h => ?_)
  · obtain ⟨M, p, l, a, dx, L, dn, v, z, q, wd, rfl, _⟩ := h
    rfl
  · obtain ⟨M, p, l, a, dx, L, dn, v, z, q, wd, rfl, hS, dq, okq, dz, wz, w1, w2, k⟩ := h
    refine ⟨_, PSs.nox (pss_cons (ps_if (PW.pt (pw_or (pt_cmpR (op_inN (room20 hr)) (pv 1) (pe_fld (pv 0) rfl) rfl) (pw_or1 (pt_cmpR op_notN (pe_fld (pv 0) rfl) pe_non (nomark _))))) (pss_one ps_retN) pss_nil) (pss_cons (ps_if (pt_cmpR op_eq (pe_callB call_len rfl T.n_len boot_len (pa_cons (pe_fld (pv 0) rfl) pa_nil)) (pe_glob (v := .int (4000)) rfl gMOST_PLACES ⟨tMOST_PLACES, rfl⟩) (nomark _)) pss_never pss_nil) (pss_cons (ps_asg (pv 2) (pg_sub (pe_fld (pv 0) rfl) (pv 1) (set_n (room20 hr)))) (pss_cons (ps_expr (pe_bm PySem.F.plainAttrs_list PySem.F.slot_list_append PySem.F.type_list_append mt_append (pe_fld (pv 0) rfl) (pa_cons (pv 1) pa_nil))) (pss_one (ps_if (pt_truth (pe_call (ok_is_done T) (hr.mono (by decide)) rfl T.g_is_done T.F_is_done.kp T.b_is_done .nil pass0 (pa_cons (pv 1) pa_nil)) (fun _ => rfl)) (pss_one (ps_fld (pv 0) (pv 2) rfl)) pss_nil)))))), ?_⟩
    obtain ⟨m, d, xs, kvs, hp, hl, hxs, ha, hk, hkL, hm, hdn, hvals⟩ := hS.ex
    have hv := hm.1
    have npl : p ≠ l := ne_of hp hl fun e => nomatch e
    have npa : p ≠ a := ne_of hp ha fun e => nomatch e
    have nla : l ≠ a := ne_of hl ha fun e => nomatch e
    refine ⟨_, rfl, _, rfl, p, T.C, dx, _, _, rfl, hp, T.cl, T.a_words, sf_words _ _ _ _, a, kvs, q, rfl, ha, hk, dq, _, rfl, ?_⟩
    rw [val_mem, hkL]
    by_cases hin : q ∈ L
    · exact ifT (decide_eq_true hin) (ifT rfl (k L dn H hS (Fr.refl _ _ _ _) (.inl rfl) fun e => ⟨e, hin⟩))
    refine ifF (decide_eq_false hin) ⟨_, rfl, p, T.C, dx, _, _, rfl, hp, T.cl, T.a_done, sf_done _ _ _ _, rfl, _, rfl, ?_⟩
    rcases hdn with ⟨e0, rfl⟩ | ⟨qd, e0, hqd, _⟩
    case inr =>
      obtain ⟨da, _, rfl, _⟩ := hqd.tup_inv
      exact ifT (by rw [ref_non]; rfl) (k L dn H hS (Fr.refl _ _ _ _) (.inl rfl) fun e => by rw [e0] at e; cases e)
    subst e0
    refine ifF (by rw [non_non]; rfl) ?_
    have hfew : (L ++ [q]).length ≤ 416 := few hv (by
      rw [List.nodup_append]
      refine ⟨hS.nd, by simp, fun x hx y hy => ?_⟩
      have e : y = q := by simpa using hy
      subst e
      rintro rfl
      exact hin hx) fun r hr => by
        rcases List.mem_append.mp hr with hr | hr
        · exact hS.ok r hr
        · have e : r = q := by simpa using hr
          rw [e]
          exact okq
    have hL1 : L.length + 1 ≤ 416 := by simpa using hfew
    have lxs : xs.length = L.length := by rw [hxs.length, List.length_map]
    have lkv : kvs.length = L.length := by rw [← hkL, List.length_map]
    refine ⟨_, rfl, p, T.C, dx, _, _, rfl, hp, T.cl, T.a_places, sf_places _ _ _ _, _, xs.length, rfl, .inl ⟨xs, .of hl, rfl⟩, rfl, _, rfl, ifF (decide_eq_false fun e => by have e := V.int.inj e; omega) ?_⟩
    obtain ⟨b, br, rfl, hb1, hb2⟩ := pl_inv dq
    refine ⟨_, rfl, _, rfl, p, T.C, dx, _, _, rfl, hp, T.cl, T.a_words, sf_words _ _ _ _, _, rfl, a, b, kvs, q, rfl, rfl, ha, hk, dq, line_lt (by omega), ?_⟩
    have vn : valP kvs q = none := valP_none.mpr (by rw [hkL]; exact hin)
    rw [putP_new vn]
    have hp1 : (upd H a (DN P w a (kvs ++ [(q, b, z)]))) p = some (.ins T.C dx (sf m l a .non)) := by rw [upd_ne npa]; exact hp
    have hl1 : (upd H a (DN P w a (kvs ++ [(q, b, z)]))) l = some (.lst xs) := by rw [upd_ne nla]; exact hl
    have t1 : TS H (upd H a (DN P w a (kvs ++ [(q, b, z)]))) := ts_ext ha
    refine ⟨_, rfl, p, T.C, dx, _, _, rfl, hp1, T.cl, T.a_places, sf_places _ _ _ _, .inl ⟨rfl, _, .of hl1⟩, _, rfl, l, xs, _, rfl, rfl, hl1, line_lt (by omega), ?_⟩
    have t2 := t1.trans (ts_lst (o := .lst (xs ++ [.ref b])) hl1)
    refine ⟨_, rfl, _, q, rfl, dq.to t2, shaped_pl hv okq, fun H3 sOld => ⟨_, rfl, ?_⟩⟩
    have s3 : Same (upd (upd H a (DN P w a (kvs ++ [(q, b, z)]))) l (.lst (xs ++ [.ref b]))) H3 := sOld
    obtain ⟨H2, eH2⟩ : ∃ H2, H2 = upd (upd H a (DN P w a (kvs ++ [(q, b, z)]))) l (.lst (xs ++ [.ref b])) := ⟨_, rfl⟩
    have hp2 : H2 p = some (.ins T.C dx (sf m l a .non)) := by rw [eH2, upd_ne npl]; exact hp1
    have hl2 : H2 l = some (.lst (xs ++ [.ref b])) := by rw [eH2, upd_same]
    have ha2 : H2 a = some (DN P w a (kvs ++ [(q, b, z)])) := by rw [eH2, upd_ne nla.symm, upd_same]
    have f2 : Fr p l a H H2 := by rw [eH2]; exact ((Fr.refl p l a H).put3).put2
    rw [← eH2] at t2 s3
    have t3 := t2.trans (same_ts s3)
    have dats3 : Dats H3 (xs ++ [.ref b]) ((L ++ [q]).map plD) := by
      rw [List.map_append]
      exact (hxs.to t3).snoc (dq.to t3)
    have keys3 : KeysIn H3 (kvs ++ [(q, b, z)]) := fun r hr => by
      rcases List.mem_append.mp hr with hr | hr
      · exact (hk r hr).to t3
      · have e : r = (q, b, z) := by simpa using hr
        subst e
        exact dq.to t3
    have vals3 : ∀ r ∈ kvs ++ [(q, b, z)], ∃ wd, Dat H3 r.2.2 (wdD wd) ∧ WdOk M r.1 wd ∧ wd.2.1.length ≤ (L ++ [q]).length ∧ wd.2.2.length ≤ (L ++ [q]).length := fun r hr => by
      rw [List.length_append, List.length_singleton]
      rcases List.mem_append.mp hr with hr | hr
      · obtain ⟨wd, z1, z2, z3, z4⟩ := hvals r hr
        exact ⟨wd, z1.to t3, z2, by omega, by omega⟩
      · have e : r = (q, b, z) := by simpa using hr
        subst e
        exact ⟨wd, dz.to t3, wz, w1, w2⟩
    have nd3 : (L ++ [q]).Nodup := by
      rw [List.nodup_append]
      refine ⟨hS.nd, by simp, fun x hx y hy => ?_⟩
      have e : y = q := by simpa using hy
      subst e
      rintro rfl
      exact hin hx
    have ok3 : ∀ r ∈ L ++ [q], PlOk M r := fun r hr => by
      rcases List.mem_append.mp hr with hr | hr
      · exact hS.ok r hr
      · have e : r = q := by simpa using hr
        rw [e]
        exact okq
    refine ifB (fun c => ?_) (fun c => ?_)
    · have c := of_decide_eq_true c
      subst c
      refine ⟨_, rfl, _, rfl, p, T.C, dx, _, rfl, s3 _ _ hp2, T.cl, T.a_done, by show 4 < 1000; decide, ?_⟩
      rw [sf_put]
      have hp3 := s3 _ _ hp2
      have t4 := ts_ins (o := .ins T.C dx (sf m l a z)) hp3
      refine k (L ++ [doneP]) (some wd) _ ⟨⟨m, z, xs ++ [.ref b], kvs ++ [(doneP, b, z)], upd_same, by rw [upd_ne npl.symm]; exact s3 _ _ hl2, dats3.to t4, by rw [upd_ne npa.symm]; exact s3 _ _ ha2, keys3.to t4, by rw [List.map_append, hkL]; rfl, (hm.ts t3).ts t4, .inr ⟨wd, rfl, (dz.to t3).to t4, wz, by simpa using w1, by simpa using w2⟩, fun r hr => ?_⟩, nd3, ok3, fun e => by cases e⟩ ((f2.same s3).put1) (.inr rfl) fun e => by cases e
      obtain ⟨wd', z1, z2⟩ := vals3 r hr
      exact ⟨wd', z1.to t4, z2⟩
    · have c := of_decide_eq_false c
      refine k (L ++ [q]) none _ ⟨⟨m, .non, xs ++ [.ref b], kvs ++ [(q, b, z)], s3 _ _ hp2, s3 _ _ hl2, dats3, s3 _ _ ha2, keys3, by rw [List.map_append, hkL]; rfl, hm.ts t3, .inl ⟨rfl, rfl⟩, vals3⟩, nd3, ok3, fun _ hd => ?_⟩ (f2.same s3) (.inr rfl) fun _ => ⟨rfl, List.mem_append_right _ List.mem_cons_self⟩
      rcases List.mem_append.mp hd with hd | hd
      · exact hS.no rfl hd
      · have e : doneP = q := by simpa using hd
        exact c e.symm
theorem wd_go {M : Mach} (V : Valid M) {p : Pl} {q : Wd} (h : WdOk M p q) (hp : PlOk M p) {g : Go} (hg : g ∈ goL M p) : WdOk M g.2.2 (q.1, q.2.1 ++ g.1, q.2.2 ++ g.2.1) := by
  obtain ⟨_, h2, h3, _⟩ := go_ok V hp hg
  exact ⟨h.re, leads_go V (reach_lt V h.re) h.le hg, let_app h.l1 h2, let_app h.l2 h3⟩
theorem wd_start {M : Mach} (V : Valid M) {p : Pl} {st : Nat} {l1 l2 : W} (h : Reach M st) (hp : IsStart M st l1 l2 p) : WdOk M p (st, l1, l2) ∧ l1.length ≤ 1 ∧ l2.length ≤ 1 := by
  have hs := reach_lt V h
  have hle := leads_start V hs hp
  obtain ⟨i, j, a, b, _, ha, hb, e1, e2, _⟩ := hp
  have ma := mv_ok V hs (List.mem_of_getElem? ha)
  have mb := mv_ok V hs (List.mem_of_getElem? hb)
  exact ⟨⟨h, hle, by rw [e1]; exact ma.l1, by rw [e2]; exact mb.l1⟩, by rw [e1]; exact ma.n1, by rw [e2]; exact mb.n1⟩
theorem ok_S_look (T : Tx K mg) : FnOk P w K mg base CX0 4 T.f_S_look T.d_S_look ["self"] (sp_S_look P w T.C) := by
  refine T.F_S_look.ok sc_S_look (fun vs H Q E h => ?_) (fun cdv A outer s H vs Q E hr h => ?_)
  · obtain ⟨M, p, l, a, dx, L, dn, rfl, _⟩ := h
    rfl
  · obtain ⟨M, p, l, a, dx, L0, dn0, rfl, hS0, k⟩ := h
    refine ⟨_, PSs.nox (pss_cons (ps_set (i := 1) sc_S_look.nd rfl (by first | exact .inl rfl | exact .inr rfl) pe_int) (pss_one (ps_while PassesOwn.never (PW.pt (pw_and (pt_cmpR op_lt (pv 1) (pe_callB call_len rfl T.n_len boot_len (pa_cons (pe_fld (pv 0) rfl) pa_nil)) (nomark _)) (pw_and1 (pt_cmpR op_isN (pe_fld (pv 0) rfl) pe_non (nomark _))))) (pss_cons (ps_asg (pe_nget (room20 hr) (pe_fld (pv 0) rfl) (pe_ix ix_list (pe_fld (pv 0) rfl) (pv 1) (fun _ _ => rfl)) (fun _ _ => rfl)) (pg_tup (n := 3) rfl (pgs_cons (pg_name (i := 2) sc_S_look.nd rfl (by first | exact .inl rfl | exact .inr rfl)) (pgs_cons (pg_name (i := 3) sc_S_look.nd rfl (by first | exact .inl rfl | exact .inr rfl)) (pgs_cons (pg_name (i := 4) sc_S_look.nd rfl (by first | exact .inl rfl | exact .inr rfl)) pgs_nil))))) (pss_cons (ps_for PassesOwn.never rfl (pi_list (pe_call (ok_going T) (hr.mono (by decide)) rfl T.g_going T.F_going.kp T.b_going .nil pass0 (pa_cons (pe_fld (pv 0) rfl) (pa_cons (pe_ix ix_list (pe_fld (pv 0) rfl) (pv 1) (fun _ _ => rfl)) pa_nil)))) (pg_tup (n := 3) rfl (pgs_cons (pg_name (i := 5) sc_S_look.nd rfl (by first | exact .inl rfl | exact .inr rfl)) (pgs_cons (pg_name (i := 6) sc_S_look.nd rfl (by first | exact .inl rfl | exact .inr rfl)) (pgs_cons (pg_name (i := 7) sc_S_look.nd rfl (by first | exact .inl rfl | exact .inr rfl)) pgs_nil)))) (pss_one (ps_expr (pe_meth (pv 0) T.cl T.m_take (ok_S_take T) (hr.mono (by decide)) T.b_S_take .nil pass0 (pa_cons (pv 7) (pa_cons (pe_tup (pa_cons (pv 2) (pa_cons (pe_op op_add_str (pv 3) (pv 5)) (pa_cons (pe_op op_add_str (pv 4) (pv 6)) pa_nil)))) pa_nil)))))) (pss_one (ps_aug (i := 1) sc_S_look.nd rfl (by first | exact .inl rfl | exact .inr rfl) pe_int ip_add))))))), ?_⟩
    refine ⟨fun mm σ H' => ∃ (at_ : Nat) (L : List Pl) (dn : Option Wd) (a2 a3 a4 a5 a6 a7 : Option L2.V), σ = [some (.ref p), some (.int at_), a2, a3, a4, a5, a6, a7] ∧ SAt P w T.C M H' p l a dx L dn ∧ Fr p l a H H' ∧ (∀ q ∈ L0, q ∈ L) ∧ at_ ≤ L.length ∧ (dn = none → dn0 = none ∧ ∀ j r, j < at_ → L[j]? = some r → ∀ r' ∈ foll M r, r' ∈ L) ∧ mm = 416 - at_,
      ⟨_, 0, L0, dn0, none, none, none, none, none, none, rfl, hS0, Fr.refl _ _ _ _, fun _ z => z, Nat.zero_le _, fun e => ⟨e, fun j r hj => absurd hj (Nat.not_lt_zero _)⟩, rfl⟩, ?_⟩
    rintro mm σ H1 ⟨at_, L, dn, a2, a3, a4, a5, a6, a7, rfl, hS, hf, hsub, hat, hcov, rfl⟩
    obtain ⟨m, d, xs, kvs, hp, hl, hxs, ha, hk, hkL, hm, hdn, hvals⟩ := hS.ex
    have hv := hm.1
    have hfew := few hv hS.nd hS.ok
    have lxs : xs.length = L.length := by rw [hxs.length, List.length_map]
    refine ⟨_, rfl, _, rfl, p, T.C, dx, _, _, rfl, hp, T.cl, T.a_places, sf_places _ _ _ _, _, xs.length, rfl, .inl ⟨xs, .of hl, rfl⟩, _, _, rfl, rfl, _, rfl, ?_⟩
    refine ifB (fun c => ?_) (fun c => ?_)
    · have c := of_decide_eq_true c
      have hlt : at_ < L.length := by omega
      refine ⟨_, rfl, p, T.C, dx, _, _, rfl, hp, T.cl, T.a_done, sf_done _ _ _ _, rfl, _, rfl, ?_⟩
      rcases hdn with ⟨e0, rfl⟩ | ⟨qd, e0, hqd, _⟩
      case inr =>
        obtain ⟨da, _, rfl, _⟩ := hqd.tup_inv
        refine ifF (ref_non _) (k L dn H1 hS hf hsub fun e => by rw [e0] at e; cases e)
      subst e0
      refine ifT non_non ?_
      obtain ⟨hdn0, hcov⟩ := hcov rfl
      have gpl : L[at_]? = some L[at_] := List.getElem?_eq_getElem hlt
      generalize L[at_] = pl at gpl
      have hpl := List.mem_of_getElem? gpl
      have okp := hS.ok pl hpl
      obtain ⟨pv, gx, dpl⟩ := hxs.get (i := at_) (d := plD pl) (by rw [List.getElem?_map, gpl]; rfl)
      obtain ⟨pb, pr, rfl, hb1, hb2⟩ := pl_inv dpl
      have hvk : (valP kvs pl).isSome = true := valP_some.mpr (by rw [hkL]; exact hpl)
      obtain ⟨z, hz⟩ := Option.isSome_iff_exists.mp hvk
      obtain ⟨kb, hkb⟩ := valP_mem hz
      obtain ⟨wd, dz, wz, w1, w2⟩ := hvals _ hkb
      have dz : Dat H1 z (wdD wd) := dz
      have wz : WdOk M pl wd := wz
      obtain ⟨za, rfl, hza⟩ := wd_inv dz
      refine ⟨fun σ' H' => ∃ (L' : List Pl) (dn' : Option Wd) (a2 a3 a4 a5 a6 a7 : Option L2.V), σ' = [some (.ref p), some (.int ((at_ + 1 : Nat) : Int)), a2, a3, a4, a5, a6, a7] ∧ SAt P w T.C M H' p l a dx L' dn' ∧ Fr p l a H H' ∧ (∀ q ∈ L0, q ∈ L') ∧ at_ + 1 ≤ L'.length ∧ (dn' = none → dn0 = none ∧ ∀ j r, j < at_ + 1 → L'[j]? = some r → ∀ r' ∈ foll M r, r' ∈ L'),
        fun σ' H' ⟨L', dn', b2, b3, b4, b5, b6, b7, e1, e2, e3, e4, e5, e6⟩ => ⟨416 - (at_ + 1), by omega, at_ + 1, L', dn', b2, b3, b4, b5, b6, b7, e1, e2, e3, e4, e5, e6, rfl⟩, ?_⟩
      refine ⟨_, rfl, p, T.C, dx, _, _, rfl, hp, T.cl, T.a_words, sf_words _ _ _ _, _, rfl, p, T.C, dx, _, _, rfl, hp, T.cl, T.a_places, sf_places _ _ _ _, _, rfl, l, xs, at_, _, rfl, rfl, .of hl, atI_nat gx, a, kvs, pl, _, rfl, ha, hk, dpl, hz, za, _, rfl, .of hza, rfl, _, _, rfl, _, _, rfl, _, _, rfl, rfl, ?_⟩
      refine ⟨_, rfl, p, T.C, dx, _, _, rfl, hp, T.cl, T.a_machine, sf_machine _ _ _ _, _, rfl, p, T.C, dx, _, _, rfl, hp, T.cl, T.a_places, sf_places _ _ _ _, _, rfl, l, xs, at_, _, rfl, rfl, .of hl, atI_nat gx, m, M, _, pl, rfl, hm, dpl, okp, fun lg gs H2 s2 nlg hlg hdg => ⟨lg, rfl, ⟨_, .of hlg⟩, ?_⟩⟩
      have hS2 := hS.same s2
      have lgs : gs.length = (goL M pl).length := by rw [hdg.length, List.length_map]
      have nlgp : lg ≠ p := (ne_of_none hp nlg).symm
      have nlgl : lg ≠ l := (ne_of_none hl nlg).symm
      have nlga : lg ≠ a := (ne_of_none ha nlg).symm
      refine for_list (fun i σ H' => ∃ (L' : List Pl) (dn' : Option Wd) (a5 a6 a7 : Option L2.V), σ = [some (.ref p), some (.int at_), some (.int wd.1), some (.str (S wd.2.1)), some (.str (S wd.2.2)), a5, a6, a7] ∧ SAt P w T.C M H' p l a dx L' dn' ∧ Fr p l a H2 H' ∧ (∃ R, L' = L ++ R) ∧ (dn' = none → ∀ j g, j < i → (goL M pl)[j]? = some g → g.2.2 ∈ L'))
        ⟨L, none, _, _, _, rfl, hS2, Fr.refl _ _ _ _, ⟨[], (List.append_nil _).symm⟩, fun _ j g hj => absurd hj (Nat.not_lt_zero _)⟩ (fun i σ H' _ ⟨_, _, _, _, _, _, _, fr, _⟩ => .of (fr _ _ nlgp nlgl nlga hlg)) ?_ ?_
      · rintro i x σ H3 hx ⟨L1, dn1, b5, b6, b7, rfl, hS3, hf3, ⟨R, eR⟩, hcov3⟩
        obtain ⟨dd, gd, hdd⟩ := hdg.at hx
        rw [List.getElem?_map] at gd
        obtain ⟨g, gg, rfl⟩ := Option.map_eq_some_iff.mp gd
        have hg := List.mem_of_getElem? gg
        obtain ⟨ga, pp, rfl, hga, hpp⟩ := go_inv hdd
        have ts3 := hf3.ts hS2
        obtain ⟨ok2, g1, g2, g3, g4⟩ := go_ok hv okp hg
        refine ⟨ga, _, rfl, .of (ts3 _ _ hga), rfl, _, _, rfl, _, _, rfl, _, _, rfl, rfl, ?_⟩
        obtain ⟨m3, d3, xs3, kvs3, hp3, hl3, _⟩ := hS3.ex
        refine ⟨_, rfl, p, dx, _, rfl, hp3, sf_take _ _ _ _, _, rfl, _, rfl, _, rfl, _, rfl, S wd.2.1, S g.1, rfl, rfl, line_big (by rw [S_len, S_len]; omega), _, rfl, _, rfl, S wd.2.2, S g.2.1, rfl, rfl, line_big (by rw [S_len, S_len]; omega), line_big (by show 3 ≤ 16000000; decide), fun t1 nt1 => ?_⟩
        have s4 := same_new (o := .tup [.int wd.1, .str (S wd.2.1 ++ S g.1), .str (S wd.2.2 ++ S g.2.1)]) (Same.refl H3) nt1
        have lL1 : L.length ≤ L1.length := by rw [eR, List.length_append]; omega
        refine ⟨M, p, l, a, dx, L1, dn1, pp, .ref t1, g.2.2, (wd.1, wd.2.1 ++ g.1, wd.2.2 ++ g.2.1), rfl, hS3.same s4, (hpp.to ts3).same s4, ok2, .tup upd_same (.cons (.int _) (.cons (str_app _ _) (.cons (str_app _ _) .nil))), wd_go hv wz okp hg,
          by show (wd.2.1 ++ g.1).length ≤ _; rw [List.length_append]; omega, by show (wd.2.2 ++ g.2.1).length ≤ _; rw [List.length_append]; omega, fun L' dn' H' hS' hf' hL' hdn' => ?_⟩
        have hR' : ∃ R, L' = L1 ++ R := by
          rcases hL' with e | e
          · exact ⟨[], by rw [e, List.append_nil]⟩
          · exact ⟨_, e⟩
        obtain ⟨R', eR'⟩ := hR'
        refine ⟨L', dn', _, _, _, rfl, hS', (hf3.same s4).trans hf', ⟨R ++ R', by rw [eR', eR, List.append_assoc]⟩, fun e j g' hj gj => ?_⟩
        obtain ⟨e1, e2⟩ := hdn' e
        rcases Nat.lt_succ_iff_lt_or_eq.mp hj with hj | rfl
        · rw [eR']
          exact List.mem_append_left _ (hcov3 e1 j g' hj gj)
        · rw [gg] at gj
          cases gj
          exact e2
      · rintro σ H3 ⟨L1, dn1, b5, b6, b7, rfl, hS3, hf3, ⟨R, eR⟩, hcov3⟩
        refine ⟨_, rfl, _, _, rfl, rfl, L1, dn1, _, _, _, _, _, _, rfl, hS3, (hf.same s2).trans hf3, fun q hq => by rw [eR]; exact List.mem_append_left _ (hsub q hq), by rw [eR, List.length_append]; omega, fun e => ⟨hdn0, fun j r hj gr r' hr' => ?_⟩⟩
        rcases Nat.lt_succ_iff_lt_or_eq.mp hj with hj | rfl
        · rw [eR, List.getElem?_append_left (by omega)] at gr
          rw [eR]
          exact List.mem_append_left _ (hcov j r hj gr r' hr')
        · rw [eR, get_app gpl] at gr
          cases gr
          unfold foll at hr'
          obtain ⟨g, hg, rfl⟩ := List.mem_map.mp hr'
          obtain ⟨j, hj⟩ := List.mem_iff_getElem?.mp hg
          exact hcov3 e j g (by rw [lgs]; exact (List.getElem?_eq_some_iff.mp hj).1) hj
    · have c := of_decide_eq_false c
      refine ifF rfl (k L dn H1 hS hf hsub fun e => ⟨(hcov e).1, fun r hr r' hr' => ?_⟩)
      obtain ⟨j, hj⟩ := List.mem_iff_getElem?.mp hr
      exact (hcov e).2 j r (by have := (List.getElem?_eq_some_iff.mp hj).1; omega) hj r' hr'
theorem ok_S_init (T : Tx K mg) : FnOk P w K mg base CX0 5 T.f_S_init T.d_S_init ["self", "machine"] (sp_S_init P w K T.C) := by
  refine T.F_S_init.ok sc_S_init (fun vs H Q E h => ?_) (fun cdv A outer s H vs Q E hr h => ?_)
  · obtain ⟨M, p, dx, m, H0, rfl, _⟩ := h
    rfl
  · obtain ⟨M, p, dx, m, H0, rfl, s0, np, hp, hm, k⟩ := h
    have hv := hm.1
    refine ⟨_, PSs.nox (pss_cons (ps_fld (pv 0) (pv 1) rfl) (pss_cons (ps_fld (pv 0) (pe_lst pa_nil) rfl) (pss_cons (ps_fld (pv 0) pe_nnew rfl) (pss_cons (ps_fld (pv 0) pe_non rfl) (pss_cons (ps_for PassesOwn.never rfl (pi_list (pe_call (ok_starting T) (hr.mono (by decide)) rfl T.g_starting T.F_starting.kp T.b_starting .nil pass0 (pa_cons (pv 1) pa_nil))) (pg_tup (n := 4) rfl (pgs_cons (pg_name (i := 2) sc_S_init.nd rfl (by first | exact .inl rfl | exact .inr rfl)) (pgs_cons (pg_name (i := 3) sc_S_init.nd rfl (by first | exact .inl rfl | exact .inr rfl)) (pgs_cons (pg_name (i := 4) sc_S_init.nd rfl (by first | exact .inl rfl | exact .inr rfl)) (pgs_cons (pg_name (i := 5) sc_S_init.nd rfl (by first | exact .inl rfl | exact .inr rfl)) pgs_nil))))) (pss_one (ps_expr (pe_meth (pv 0) T.cl T.m_take (ok_S_take T) (hr.mono (by decide)) T.b_S_take .nil pass0 (pa_cons (pv 5) (pa_cons (pe_tup (pa_cons (pv 2) (pa_cons (pv 3) (pa_cons (pv 4) pa_nil)))) pa_nil)))))) (pss_one (ps_expr (pe_meth0 (pv 0) T.cl T.m_look (ok_S_look T) (hr.mono (by decide)) T.b_S_look .nil pass0)))))))), ?_⟩
    refine ⟨_, rfl, _, rfl, p, T.C, dx, [], rfl, hp, T.cl, T.a_machine, by show 0 < 1000; decide, ?_⟩
    refine ⟨Nat.zero_le _, fun l nl => ⟨_, rfl, p, T.C, dx, _, rfl, by rw [upd_ne (ne_of_none upd_same nl)]; exact upd_same, T.cl, T.a_places, by show 1 < 1000; decide, ?_⟩⟩
    refine fun a na => ⟨_, rfl, p, T.C, dx, _, rfl, by rw [upd_ne (ne_of_none upd_same na)]; exact upd_same, T.cl, T.a_words, by show 2 < 1000; decide, ?_⟩
    refine ⟨_, rfl, p, T.C, dx, _, rfl, upd_same, T.cl, T.a_done, by show 3 < 1000; decide, ?_⟩
    rw [sf_make]
    have npl : p ≠ l := ne_of_none upd_same nl
    have npa : p ≠ a := ne_of_none upd_same na
    have nla : l ≠ a := ne_of_none (show _ = some (.lst []) by rw [upd_ne npl.symm, upd_same]) na
    have t1 := same_set (o := .ins T.C dx (putF "machine" m [])) s0 np
    have nl0 : H0 l = none := t1.free nl
    have t3 := same_set (o := .ins T.C dx (putF "places" (.ref l) (putF "machine" m []))) (same_new (o := .lst []) t1 nl) np
    have na0 : H0 a = none := t3.free na
    have t6 := same_set (o := .ins T.C dx (sf m l a .non)) (same_set (o := .ins T.C dx (putF "words" (.ref a) (putF "places" (.ref l) (putF "machine" m [])))) (same_new (o := DN P w a []) t3 na) np) np
    refine ⟨_, rfl, m, M, rfl, hm.same t6, fun Lb hSt lr rs H5 s5 nlr hlr hdr => ⟨lr, rfl, ⟨_, .of hlr⟩, ?_⟩⟩
    have hp5 : H5 p = some (.ins T.C dx (sf m l a .non)) := s5 _ _ upd_same
    have hl5 : H5 l = some (.lst []) := s5 _ _ (by rw [upd_ne npl.symm, upd_ne npl.symm, upd_ne nla, upd_ne npl.symm, upd_same])
    have ha5 : H5 a = some (DN P w a []) := s5 _ _ (by rw [upd_ne npa.symm, upd_ne npa.symm, upd_same]; rfl)
    have s50 : Same H0 H5 := t6.trans s5
    have hS5 : SAt P w T.C M H5 p l a dx [] none := ⟨⟨m, .non, [], [], hp5, hl5, .nil, ha5, keysIn_nil, rfl, hm.same s50, .inl ⟨rfl, rfl⟩, fun q hq => absurd hq List.not_mem_nil⟩, List.nodup_nil, fun q hq => absurd hq List.not_mem_nil, fun _ => List.not_mem_nil⟩
    have nlrp : lr ≠ p := fun e => by rw [e, upd_same] at nlr; cases nlr
    have nlrl : lr ≠ l := fun e => by rw [e, upd_ne npl.symm, upd_ne npl.symm, upd_ne nla, upd_ne npl.symm, upd_same] at nlr; cases nlr
    have nlra : lr ≠ a := fun e => by rw [e, upd_ne npa.symm, upd_ne npa.symm, upd_same] at nlr; cases nlr
    have lrs : rs.length = Lb.length := by rw [hdr.length, List.length_map]
    refine for_list (fun i σ H' => ∃ (L : List Pl) (dn : Option Wd) (a2 a3 a4 a5 : Option L2.V), σ = [some (.ref p), some m, a2, a3, a4, a5] ∧ SAt P w T.C M H' p l a dx L dn ∧ Fr p l a H5 H' ∧ (dn = none → ∀ j q, j < i → Lb[j]? = some q → plOf q ∈ L))
      ⟨[], none, none, none, none, none, rfl, hS5, Fr.refl _ _ _ _, fun _ j q hj => absurd hj (Nat.not_lt_zero _)⟩ (fun i σ H' _ ⟨_, _, _, _, _, _, _, _, fr, _⟩ => .of (fr _ _ nlrp nlrl nlra hlr)) ?_ ?_
    · rintro i x σ H6 hx ⟨L, dn, a2, a3, a4, a5, rfl, hS6, hf6, hcov⟩
      obtain ⟨dd, gd, hdd⟩ := hdr.at hx
      rw [List.getElem?_map] at gd
      obtain ⟨bg, gg, rfl⟩ := Option.map_eq_some_iff.mp gd
      obtain ⟨b1, b2⟩ := hSt.sound bg (List.mem_of_getElem? gg)
      obtain ⟨w0, w1, w2⟩ := wd_start hv b1 b2
      obtain ⟨ba, pp, rfl, hba, hpp⟩ := bg_inv hdd
      have ts6 := hf6.ts hS5
      refine ⟨ba, _, rfl, .of (ts6 _ _ hba), rfl, _, _, rfl, _, _, rfl, _, _, rfl, _, _, rfl, rfl, ?_⟩
      obtain ⟨m6, d6, xs6, kvs6, hp6, _⟩ := hS6.ex
      refine ⟨_, rfl, p, dx, _, rfl, hp6, sf_take _ _ _ _, _, rfl, _, rfl, _, rfl, _, rfl, line_big (by show 3 ≤ 16000000; decide), fun tt ntt => ?_⟩
      have s7 := same_new (o := .tup [.int bg.1, .str (S bg.2.1), .str (S bg.2.2.1)]) (Same.refl H6) ntt
      refine ⟨M, p, l, a, dx, L, dn, pp, .ref tt, bg.2.2.2, (bg.1, bg.2.1, bg.2.2.1), rfl, hS6.same s7, (hpp.to ts6).same s7, start_ok hv (reach_lt hv b1) b2, .tup upd_same (.cons (.int _) (.cons (.str _) (.cons (.str _) .nil))), w0, by show bg.2.1.length ≤ _; omega, by show bg.2.2.1.length ≤ _; omega, fun L' dn' H' hS' hf' hL' hdn' => ?_⟩
      refine ⟨L', dn', _, _, _, _, rfl, hS', (hf6.same s7).trans hf', fun e j q hj gj => ?_⟩
      obtain ⟨e1, e2⟩ := hdn' e
      rcases Nat.lt_succ_iff_lt_or_eq.mp hj with hj | rfl
      · have := hcov e1 j q hj gj
        rcases hL' with e | e
        · rw [e]
          exact this
        · rw [e]
          exact List.mem_append_left _ this
      · rw [gg] at gj
        cases gj
        exact e2
    · rintro σ H6 ⟨L, dn, a2, a3, a4, a5, rfl, hS6, hf6, hcov⟩
      obtain ⟨m6, d6, xs6, kvs6, hp6, _⟩ := hS6.ex
      refine ⟨_, rfl, p, dx, _, rfl, hp6, sf_look _ _ _ _, M, p, l, a, dx, L, dn, rfl, hS6, fun L' dn' H' hS' hf' hsub hdn' => ?_⟩
      refine k l a L' dn' H' nl0 na0 hS' (Fr.to_same s50 np nl0 na0 (hf6.trans hf')) fun e => ?_
      obtain ⟨e1, e2⟩ := hdn' e
      refine ⟨hS'.nd, fun st l1 l2 q hre hq => ?_, e2, hS'.no e⟩
      obtain ⟨bg, hbg, rfl⟩ := List.mem_map.mp (hSt.all st l1 l2 q hre hq)
      obtain ⟨j, hj⟩ := List.mem_iff_getElem?.mp hbg
      exact hsub _ (hcov e1 j bg (by rw [lrs]; exact (List.getElem?_eq_some_iff.mp hj).1) hj)
end
end K67


/-! K4i: closed lists, two words. -/
namespace K67
open PySem PySem.Spec PyProof.Rows L2
theorem reach_word {M : Mach} (V : Valid M) {s : Nat} (h : Reach M s) : ∃ x, Let M.k x ∧ (walk M 0 x).2 = s := by
  induction h with
  | zero => exact ⟨[], let_nil, rfl⟩
  | @step s e hs he ih =>
    obtain ⟨x, h1, h2⟩ := ih
    obtain ⟨i, hi⟩ := List.mem_iff_getElem?.mp he
    have hl := reach_lt V hs
    have hk : i < M.k := by
      have := (List.getElem?_eq_some_iff.mp hi).1
      rwa [ents_len V hl] at this
    have ee : M.ent s (97 + i) = e := by
      have := ent_get V hl (c := 97 + i) (by omega)
      rw [Nat.add_sub_cancel_left, hi] at this
      exact (Option.some.inj this).symm
    refine ⟨x ++ [97 + i], let_app h1 (let_one hk), ?_⟩
    rw [walk_app, h2]
    show (M.ent s (97 + i)).2 = _
    rw [ee]
theorem amb_of {M : Mach} {wd : Wd} (h : WdOk M doneP wd) {x : W} (hx : Let M.k x) (e : (walk M 0 x).2 = wd.1) : Amb M (x ++ wd.2.1) (x ++ wd.2.2) := by
  obtain ⟨h1, h2⟩ := leads_done h.le e
  exact ⟨let_app hx h.l1, let_app hx h.l2, h1, h2⟩
theorem amb_swap {M : Mach} {x y : W} (h : Amb M x y) : Amb M y x := ⟨h.lv, h.lu, fun e => h.ne e.symm, h.eq.symm⟩
theorem perm_two {a b x y : W} (h : ([a, b] : List W).Perm [x, y]) : (a = x ∧ b = y) ∨ (a = y ∧ b = x) := by
  have ha : a ∈ [x, y] := h.mem_iff.mp List.mem_cons_self
  rcases List.mem_cons.mp ha with rfl | ha
  · have := (List.perm_cons a).mp h
    have e := List.perm_singleton.mp this
    exact .inl ⟨rfl, by simpa using e⟩
  · have e : a = y := by simpa using ha
    subst e
    have := (List.perm_cons a).mp (h.trans (List.Perm.swap a x []))
    have e := List.perm_singleton.mp this
    exact .inr ⟨rfl, by simpa using e⟩
section
variable {P : Program} {w : World} {K : PySem.W.Frag} {mg : Str → Option Value} {base : Heap}
theorem ok_closed_places (T : Tx K mg) : FnOk P w K mg base CX0 7 T.f_closed_places T.d_closed_places ["machine"] (sp_closed_places) := by
  refine T.F_closed_places.ok sc_closed_places (fun vs H Q E h => ?_) (fun cdv A outer s H vs Q E hr h => ?_)
  · obtain ⟨v, M, rfl, _⟩ := h
    rfl
  · obtain ⟨v, M, rfl, m, q1, q2⟩ := h
    have hv := m.1
    refine ⟨_, PSs.nox (pss_cons (ps_expr (pe_call (ok_check_wide T) (hr.mono (by decide)) rfl T.g_check_wide T.F_check_wide.kp T.b_check_wide .nil pass0 (pa_cons (pv 0) pa_nil))) (pss_cons (ps_set (i := 1) sc_closed_places.nd rfl (by first | exact .inl rfl | exact .inr rfl) (pe_make T.mkS (ok_S_init T) (hr.mono (by decide)) rfl T.g_Search T.b_S_init .nil pass0 (pa_cons (pv 0) pa_nil))) (pss_one (ps_ret (pe_ifExp (pt_cmpR op_isN (pe_fld (pv 1) rfl) pe_non (nomark _)) (pe_fld (pv 1) rfl) pe_non))))), ?_⟩
    refine ⟨_, rfl, _, M, rfl, m, fun H1 s1 => ⟨_, rfl, fun x dx nx ndx nex => ?_⟩⟩
    have s0 : Same H1 (upd (upd H1 dx (.own x)) x (.ins T.C dx [])) := same_set (same_new (Same.refl _) ndx) nx
    refine ⟨M, x, dx, v, H1, rfl, s0, nx, upd_same, m.same s1, fun l a L dn H2 nl na hS s2 hC => ⟨rfl, ?_⟩⟩
    obtain ⟨m', d, xs, kvs, hp, hl, hxs, ha, hk, hkL, hm, hdn, hvals⟩ := hS.ex
    refine ⟨_, rfl, x, T.C, dx, _, _, rfl, hp, T.cl, T.a_done, sf_done _ _ _ _, rfl, _, rfl, ?_⟩
    rcases hdn with ⟨e0, rfl⟩ | ⟨qd, e0, hqd, wz, _⟩
    · refine ifT non_non ⟨_, rfl, x, T.C, dx, _, _, rfl, hp, T.cl, T.a_places, sf_places _ _ _ _, ?_⟩
      exact q1 L (hC e0) hS.ok l xs H2 (s1.trans s2) (s1.free nl) hl hxs
    · obtain ⟨da, _, rfl, _⟩ := hqd.tup_inv
      obtain ⟨x0, hx0, e⟩ := reach_word hv wz.re
      exact ifF (ref_non _) (q2 _ _ (amb_of wz hx0 e) H2 (s1.trans s2))
theorem ok_two_words (T : Tx K mg) : FnOk P w K mg base CX0 7 T.f_two_words T.d_two_words ["machine"] (sp_two_words) := by
  refine T.F_two_words.ok sc_two_words (fun vs H Q E h => ?_) (fun cdv A outer s H vs Q E hr h => ?_)
  · obtain ⟨v, M, rfl, _⟩ := h
    rfl
  · obtain ⟨v, M, rfl, m, q1, q2⟩ := h
    have hv := m.1
    refine ⟨_, PSs.nox (pss_cons (ps_expr (pe_call (ok_check_wide T) (hr.mono (by decide)) rfl T.g_check_wide T.F_check_wide.kp T.b_check_wide .nil pass0 (pa_cons (pv 0) pa_nil))) (pss_cons (ps_set (i := 1) sc_two_words.nd rfl (by first | exact .inl rfl | exact .inr rfl) (pe_make T.mkS (ok_S_init T) (hr.mono (by decide)) rfl T.g_Search T.b_S_init .nil pass0 (pa_cons (pv 0) pa_nil))) (pss_cons (ps_if (pt_cmpR op_isN (pe_fld (pv 1) rfl) pe_non (nomark _)) (pss_one (ps_ret pe_non)) pss_nil) (pss_cons (ps_asg (pe_fld (pv 1) rfl) (pg_tup (n := 3) rfl (pgs_cons (pg_name (i := 2) sc_two_words.nd rfl (by first | exact .inl rfl | exact .inr rfl)) (pgs_cons (pg_name (i := 3) sc_two_words.nd rfl (by first | exact .inl rfl | exact .inr rfl)) (pgs_cons (pg_name (i := 4) sc_two_words.nd rfl (by first | exact .inl rfl | exact .inr rfl)) pgs_nil))))) (pss_cons (ps_set (i := 5) sc_two_words.nd rfl (by first | exact .inl rfl | exact .inr rfl) (pe_call (ok_first_word_to T) (hr.mono (by decide)) rfl T.g_first_word_to T.F_first_word_to.kp T.b_first_word_to .nil pass0 (pa_cons (pv 0) (pa_cons (pv 2) pa_nil)))) (pss_one (ps_ret (pe_callTy call_tuple_of rfl T.n_tuple boot_tuple (pa_cons (pe_callBK (call_sort2 (ok_key_of T) (hr.mono (by decide)) T.b_key_of (fun zs => zs = [.ref T.f_key_of]) (fun zs ws r e => by subst e; exact Vals.ref1 r)) rfl T.n_sorted boot_sorted (pa_cons (pe_lst (pa_cons (pe_op op_add_str (pv 5) (pv 3)) (pa_cons (pe_op op_add_str (pv 5) (pv 4)) pa_nil))) pa_nil) (pk_cons (pe_glob (v := .ref T.f_key_of) rfl T.g_key_of rfl) pk_nil)) pa_nil))))))))), ?_⟩
    refine ⟨_, rfl, _, M, rfl, m, fun H1 s1 => ⟨_, rfl, fun x dx nx ndx nex => ?_⟩⟩
    have s0 : Same H1 (upd (upd H1 dx (.own x)) x (.ins T.C dx [])) := same_set (same_new (Same.refl _) ndx) nx
    refine ⟨M, x, dx, v, H1, rfl, s0, nx, upd_same, m.same s1, fun l a L dn H2 nl na hS s2 hC => ⟨rfl, ?_⟩⟩
    obtain ⟨m', d, xs, kvs, hp, hl, hxs, ha, hk, hkL, hm, hdn, hvals⟩ := hS.ex
    have hfew := few hv hS.nd hS.ok
    refine ⟨_, rfl, x, T.C, dx, _, _, rfl, hp, T.cl, T.a_done, sf_done _ _ _ _, rfl, _, rfl, ?_⟩
    rcases hdn with ⟨e0, rfl⟩ | ⟨qd, e0, hqd, wz, w1, w2⟩
    · exact ifT non_non (q1 L (hC e0) H2 (s1.trans s2))
    · obtain ⟨da, rfl, hda⟩ := wd_inv hqd
      refine ifF (ref_non _) ?_
      refine ⟨_, rfl, x, T.C, dx, _, _, rfl, hp, T.cl, T.a_done, sf_done _ _ _ _, da, _, rfl, .of hda, rfl, _, _, rfl, _, _, rfl, _, _, rfl, rfl, ?_⟩
      have s12 := s1.trans s2
      refine ⟨_, rfl, _, rfl, v, M, qd.1, rfl, m.same s12, wz.re, fun x0 hx0 e hlen H3 s3 => ?_⟩
      have am := amb_of wz hx0 e
      have s123 := s12.trans s3
      refine ⟨_, rfl, _, rfl, S x0, S qd.2.1, rfl, rfl, line_big (by rw [S_len, S_len]; omega), _, rfl, _, rfl, S x0, S qd.2.2, rfl, rfl, line_big (by rw [S_len, S_len]; omega), line_big (by show 2 ≤ 16000000; decide), fun lp nlp => ?_⟩
      refine ⟨rfl, lp, x0 ++ qd.2.1, x0 ++ qd.2.2, rfl, by rw [upd_same, S_app, S_app], by rw [List.length_append]; omega, by rw [List.length_append]; omega, fun p H4 aa bb s4 np hpm hL => ?_⟩
      have s5 : Same H H4 := (same_new s123 nlp).trans s4
      refine ⟨p, _, rfl, .inl ⟨.of hL, fun t nt => ?_⟩⟩
      have fin : Amb M aa bb ∧ aa.length ≤ 900 ∧ bb.length ≤ 900 := by
        rcases perm_two hpm with ⟨rfl, rfl⟩ | ⟨rfl, rfl⟩
        · exact ⟨am, by rw [List.length_append]; omega, by rw [List.length_append]; omega⟩
        · exact ⟨amb_swap am, by rw [List.length_append]; omega, by rw [List.length_append]; omega⟩
      exact q2 aa bb fin.1 fin.2.1 fin.2.2 _ _ (same_new s5 nt) (.tup upd_same (.cons (.str _) (.cons (.str _) .nil)))
/-- the bools of a list, one by one -/
def AccB {α : Type} (f : α → Bool) (l : List α) (acc : List V) (_ : Hp) : Prop := acc = ((l.take acc.length).map f).map V.bl
theorem accB_nil {α : Type} {f : α → Bool} {l : List α} {H : Hp} : AccB f l [] H := rfl
theorem accB_snoc {α : Type} {f : α → Bool} {l : List α} {acc : List V} {H H' : Hp} {i : Nat} {x : α} (h : AccB f l acc H) (hl : acc.length = i) (hx : l[i]? = some x) : AccB f l (acc ++ [.bl (f x)]) H' := by
  unfold AccB at h ⊢
  rw [List.length_append, List.length_singleton, List.take_add_one, hl, hx, List.map_append, List.map_append]
  rw [hl] at h
  rw [← h]
  rfl
theorem accB_end {α : Type} {f : α → Bool} {l : List α} {acc : List V} {H : Hp} (h : AccB f l acc H) (hl : acc.length = l.length) : acc = (l.map f).map V.bl := by
  unfold AccB at h
  rw [hl, List.take_length] at h
  exact h
theorem all_ids (l : List Pl) (L : List Pl) : (l.map fun p => decide (p ∈ L)).all id = true ↔ ∀ p ∈ l, p ∈ L := by
  rw [List.all_map, List.all_eq_true]
  constructor
  · intro h p hp
    exact of_decide_eq_true (h p hp)
  · intro h p hp
    exact decide_eq_true (h p hp)
/-- L's repetitions by a dict's length -/
structure KnInv (L : List Pl) (i : Nat) (ks : List Pl) : Prop where
  nd : ks.Nodup
  mem : ∀ p, p ∈ ks ↔ p ∈ L.take i
  le : ks.length ≤ i
  eq : ks.length = i → (L.take i).Nodup
theorem kn_zero (L : List Pl) : KnInv L 0 [] := ⟨List.nodup_nil, fun p => by simp, Nat.le_refl _, fun _ => by simp⟩
theorem kn_step {L : List Pl} {i : Nat} {kvs : List PKV} {p : Pl} {b : Addr} {v : V} (h : KnInv L i (kvs.map (·.1))) (hp : L[i]? = some p) : KnInv L (i + 1) ((putP kvs p b v).map (·.1)) where
  nd := putP_nd h.nd
  mem := fun q => by
    rw [putP_mem, h.mem, List.take_add_one, hp, List.mem_append]
    simp
  le := by
    have h1 := putP_len kvs p b v
    have h2 := h.le
    rw [List.length_map] at h2 ⊢
    omega
  eq := fun e => by
    have h2 := h.le
    rw [List.length_map] at h2 e
    cases hv : valP kvs p with
    | some z =>
      have e2 := (putP_keys_old (b := b) (v := v) (show (valP kvs p).isSome = true by rw [hv]; rfl)).1
      have e3 := congrArg List.length e2
      rw [List.length_map, List.length_map] at e3
      omega
    | none =>
      rw [putP_new hv, List.length_append, List.length_singleton] at e
      have h3 := h.eq (by rw [List.length_map]; omega)
      rw [List.take_add_one, hp, List.nodup_append]
      refine ⟨h3, by simp, fun x hx y hy => ?_⟩
      have e : y = p := by simpa using hy
      subst e
      rintro rfl
      exact valP_none.mp hv ((h.mem _).mpr hx)
theorem kn_end {L ks : List Pl} (h : KnInv L L.length ks) : (ks.length < L.length ↔ ¬ L.Nodup) ∧ ∀ p, p ∈ ks ↔ p ∈ L := by
  have hm := h.mem
  have he := h.eq
  rw [List.take_length] at hm he
  refine ⟨⟨fun hl nd => ?_, fun hn => ?_⟩, hm⟩
  · have := nodup_le nd fun p hp => (hm p).mpr hp
    omega
  · rcases Nat.lt_or_ge ks.length L.length with h1 | h1
    · exact h1
    · exact absurd (he (by have := h.le; omega)) hn
theorem ok_is_closed_list (T : Tx K mg) : FnOk P w K mg base CX0 8 T.f_is_closed_list T.d_is_closed_list ["machine", "places"] (sp_is_closed_list) := by
  refine T.F_is_closed_list.ok sc_is_closed_list (fun vs H Q E h => ?_) (fun cdv A outer s H vs Q E hr h => ?_)
  · obtain ⟨v, M, l, L, rfl, _⟩ := h
    rfl
  · obtain ⟨v, M, l, L, rfl, m, ⟨xs, hl, hxs⟩, hlen, hok, q⟩ := h
    have hv := m.1
    refine ⟨_, PSs.nox (pss_cons (ps_expr (pe_call (ok_check_wide T) (hr.mono (by decide)) rfl T.g_check_wide T.F_check_wide.kp T.b_check_wide .nil pass0 (pa_cons (pv 0) pa_nil))) (pss_cons (ps_set (i := 2) sc_is_closed_list.nd rfl (by first | exact .inl rfl | exact .inr rfl) (pe_dcN (room20 hr) rfl sc_is_closed_list.nd (pi_list (pv 1)) (blkOk_by (own := [("place", 3)]) (by rfl)) (fun _ _ _ _ _ => (pg_name (i := 3) sc_is_closed_list.nd rfl (by first | exact .inl rfl | exact .inr rfl))) (fun _ _ _ _ _ => (pv 3)) (fun _ _ _ _ _ => pe_bl))) (pss_cons (ps_if (PW.pt (pw_or (pt_cmpR op_lt (pe_callB call_lenN rfl T.n_len boot_len (pa_cons (pv 2) pa_nil)) (pe_callB call_len rfl T.n_len boot_len (pa_cons (pv 1) pa_nil)) (nomark _)) (pw_or1 (pt_not (pt_truth (pe_callB (cr_all rfl) rfl T.n_all boot_all (pa_cons (pe_lc rfl sc_is_closed_list.nd (pi_list (pe_call (ok_starts T) (hr.mono (by decide)) rfl T.g_starts T.F_starts.kp T.b_starts .nil pass0 (pa_cons (pv 0) pa_nil))) (blkOk_by (own := [("place", 3)]) (by rfl)) (fun _ _ _ _ _ => (pg_name (i := 3) sc_is_closed_list.nd rfl (by first | exact .inl rfl | exact .inr rfl))) (fun _ _ _ _ _ => pts_nil) (fun _ _ _ _ _ => (pe_cmpR (op_inNK (P := P) (w := w) rfl rfl (room20 hr)) (pv 3) (pv 2) rfl))) pa_nil)) (fun _ => rfl)))))) (pss_one (ps_ret pe_bl)) pss_nil) (pss_cons (ps_for PassesOwn.never rfl (pi_list (pv 1)) (pg_name (i := 3) sc_is_closed_list.nd rfl (by first | exact .inl rfl | exact .inr rfl)) (pss_cons (ps_try_thru0 (pss_one (ps_set (i := 4) sc_is_closed_list.nd rfl (by first | exact .inl rfl | exact .inr rfl) (pe_call (ok_following T) (hr.mono (by decide)) rfl T.g_following T.F_following.kp T.b_following .nil pass0 (pa_cons (pv 0) (pa_cons (pv 3) pa_nil)))))) (pss_one (ps_if (PW.pt (pw_or (pt_truth (pe_call (ok_is_done T) (hr.mono (by decide)) rfl T.g_is_done T.F_is_done.kp T.b_is_done .nil pass0 (pa_cons (pv 3) pa_nil)) (fun _ => rfl)) (pw_or1 (pt_not (pt_truth (pe_callB (cr_all rfl) rfl T.n_all boot_all (pa_cons (pe_lc rfl sc_is_closed_list.nd (pi_list (pv 4)) (blkOk_by (own := [("found", 5)]) (by rfl)) (fun _ _ _ _ _ => (pg_name (i := 5) sc_is_closed_list.nd rfl (by first | exact .inl rfl | exact .inr rfl))) (fun _ _ _ _ _ => pts_nil) (fun _ _ _ _ _ => (pe_cmpR (op_inNK (P := P) (w := w) rfl rfl (room20 hr)) (pv 5) (pv 2) rfl))) pa_nil)) (fun _ => rfl)))))) (pss_one (ps_ret pe_bl)) pss_nil)))) (pss_one (ps_ret pe_bl)))))), ?_⟩
    have lxs : xs.length = L.length := by rw [hxs.length, List.length_map]
    have no : ∀ H', Same H H' → ¬ ClosedP M L → Q (.bl false) H' := fun H' s hn => q false ⟨fun e => absurd e Bool.false_ne_true, fun c => absurd c hn⟩ H' s
    refine ⟨_, rfl, _, M, rfl, m, fun H1 s1 => ?_⟩
    have hxs1 := hxs.same s1
    refine ⟨_, rfl, l, rfl, ⟨_, .of (s1 _ _ hl)⟩, fun D nD => ?_⟩
    refine dcN_list (xs := xs) (fun i H' => ∃ kvs : List PKV, Kp D H1 H' ∧ H' D = some (DN P w D kvs) ∧ KeysIn H' kvs ∧ KnInv L i (kvs.map (·.1))) ⟨[], (Kp.refl _ _).put, upd_same, keysIn_nil, kn_zero L⟩ (fun i H' ⟨_, kp, _⟩ => .of (kp _ _ (ne_of_none (s1 _ _ hl) nD) (s1 _ _ hl))) ?_ ?_
    · rintro i x H2 hx ⟨kvs, kp, hD, hk, hK⟩
      obtain ⟨dd, gd, hdd⟩ := hxs1.at hx
      rw [List.getElem?_map] at gd
      obtain ⟨p, gp, rfl⟩ := Option.map_eq_some_iff.mp gd
      obtain ⟨b, br, rfl, hb1, hb2⟩ := pl_inv hdd
      have ts : TS H1 H2 := fun c ys e => kp c _ (ne_of_none e nD) e
      have hlk := few hv hK.nd fun r hr => hok r (List.mem_of_mem_take ((hK.mem r).mp hr))
      rw [List.length_map] at hlk
      refine ⟨rfl, _, rfl, D, b, kvs, p, rfl, rfl, hD, hk, hdd.to ts, line_lt (by omega), putP kvs p b (.bl true), kp.put, upd_same, (keysIn_put hk (hdd.to ts)).to (ts_ext hD), kn_step hK gp⟩
    · rintro H2 ⟨kvs, kp, hD, hk, hK⟩
      rw [lxs] at hK
      obtain ⟨hlt, hmem⟩ := kn_end hK
      rw [List.length_map] at hlt
      have s2 : Same H H2 := Kp.to_same s1 (s1.free nD) kp
      have hxs2 := hxs.same s2
      refine ⟨_, rfl, D, kvs, rfl, hD, hk, _, rfl, _, L.length, rfl, .inl ⟨xs, .of (s2 _ _ hl), lxs.symm⟩, _, _, rfl, rfl, _, rfl, ?_⟩
      refine ifB (fun c => ifT rfl (no H2 s2 fun C => ?_)) (fun c => ?_)
      · have c := of_decide_eq_true c
        exact (hlt.mp (by omega)) C.nd
      have hnd : L.Nodup := by
        have c := of_decide_eq_false c
        exact Classical.byContradiction fun hn => c (by have := hlt.mpr hn; omega)
      refine ⟨_, rfl, v, M, rfl, m.same s2, fun St hSt stnd ls ss H3 s3 nls hls hds => ⟨ls, rfl, ⟨_, .of hls⟩, fun D2 nD2 => ?_⟩⟩
      have lss : ss.length = St.length := by rw [hds.length, List.length_map]
      have hD3 := s3 _ _ hD
      have hk3 := hk.to (same_ts s3)
      have hfewS : St.length ≤ 416 := few hv stnd fun p hp => by
        obtain ⟨st, l1, l2, h1, h2⟩ := hSt.sound p hp
        exact start_ok hv (reach_lt hv h1) h2
      refine lc_it (walk_list (xs := ss)) (LcP (AccB (fun p => decide (p ∈ L)) St) H3 D2) (lcp_zero nD2 accB_nil) (fun i H4 _ ⟨acc, sm, _⟩ => .of (sm _ _ hls)) (fun i y H4 H' hi ⟨acc, sm, hDa, hla, ra⟩ hy => ?_) (fun H4 ⟨acc, sm, hDa, hla, ra⟩ => ?_)
      · obtain ⟨rfl, hy⟩ := hy
        obtain ⟨dd, gd, hdd⟩ := hds.at hy
        rw [List.getElem?_map] at gd
        obtain ⟨p, gp, rfl⟩ := Option.map_eq_some_iff.mp gd
        refine ⟨rfl, yes ⟨_, rfl, _, rfl, D, kvs, p, rfl, sm _ _ hD3, hk3.to (same_ts sm), hdd.same sm, ?_⟩⟩
        rw [val_mem, show decide (p ∈ kvs.map (·.1)) = decide (p ∈ L) from by rw [Bool.eq_iff_iff, decide_eq_true_iff, decide_eq_true_iff]; exact hmem p]
        exact lcp_step nD2 sm hDa hla (by omega) (accB_snoc ra hla gp)
      · have ea := accB_end ra (by rw [hla, lss])
        refine ⟨D2, St.map fun p => decide (p ∈ L), rfl, .of (by rw [← ea]; exact hDa), _, rfl, ?_⟩
        have s4 : Same H H4 := s2.trans (s3.trans sm)
        refine ifB (fun c => no H4 s4 fun C => ?_) (fun c => ?_)
        · have c2 : (St.map fun p => decide (p ∈ L)).all id ≠ true := by
            intro e
            rw [e] at c
            cases c
          refine c2 ((all_ids _ _).mpr fun p hp => ?_)
          obtain ⟨st, l1, l2, h1, h2⟩ := hSt.sound p hp
          exact C.st st l1 l2 p h1 h2
        have hstL : ∀ p ∈ St, p ∈ L := (all_ids _ _).mp (by simpa using c)
        have hD4 := sm _ _ hD3
        have hk4 := hk3.to (same_ts sm)
        refine ⟨_, rfl, l, rfl, ⟨_, .of (s4 _ _ hl)⟩, for_list (fun i σ H' => ∃ (a3 a4 a5 : Option L2.V), σ = [some v, some (.ref l), some (.ref D), a3, a4, a5] ∧ Same H4 H' ∧ ∀ j r, j < i → L[j]? = some r → r ≠ doneP ∧ ∀ r' ∈ foll M r, r' ∈ L) ⟨_, _, _, rfl, Same.refl _, fun j r hj => absurd hj (Nat.not_lt_zero _)⟩ (fun i σ H' _ ⟨_, _, _, _, sm, _⟩ => .of (sm _ _ (s4 _ _ hl))) ?_ ?_⟩
        · rintro i x σ H5 hx ⟨a3, a4, a5, rfl, s5, hcov⟩
          obtain ⟨dd, gd, hdd⟩ := (hxs.same s4).at hx
          rw [List.getElem?_map] at gd
          obtain ⟨p, gp, rfl⟩ := Option.map_eq_some_iff.mp gd
          have hpL := List.mem_of_getElem? gp
          have okp := hok p hpL
          refine ⟨_, rfl, _, rfl, v, M, x, p, rfl, (m.same s4).same s5, hdd.same s5, okp, fun lf fs H6 s6 nlf hlf hdf => ?_⟩
          have s46 := s5.trans s6
          refine ⟨_, rfl, _, p, rfl, hdd.same s46, shaped_pl hv okp, fun H7 s7 => ⟨_, rfl, ?_⟩⟩
          have s47 := s46.trans s7
          refine ifB (fun c => ifT rfl (no H7 (s4.trans s47) fun C => C.nodone (by rw [← of_decide_eq_true c]; exact hpL))) (fun c => ?_)
          have hnp := of_decide_eq_false c
          have hlf7 := s7 _ _ hlf
          have hdf7 := hdf.same s7
          have lfs : fs.length = (foll M p).length := by rw [hdf.length, List.length_map]
          refine ⟨_, rfl, lf, rfl, ⟨_, .of hlf7⟩, fun D3 nD3 => ?_⟩
          have hfewF : (foll M p).length ≤ 1000 := by
            have z1 := okp.s0
            have z2 := okp.s1
            have z3 := okp.t0
            have z4 := okp.t1
            have h4 : ∀ (f : Move → Option Go) (s : Nat), s < M.rows.length → ((moves M s).filterMap f).length ≤ 4 := fun f s hs => by
              have h1 := List.length_filterMap_le f (moves M s)
              have h2 := moves_len hv hs
              have h3 := hv.k3
              omega
            unfold foll goL
            rw [List.length_map]
            split
            · split
              · simp
              · have := h4 (goF p) p.s.toNat (by omega)
                omega
            · split
              · simp
              · have := h4 (goS p) p.t.toNat (by omega)
                omega
          refine lc_it (walk_list (xs := fs)) (LcP (AccB (fun p => decide (p ∈ L)) (foll M p)) H7 D3) (lcp_zero nD3 accB_nil) (fun i H8 _ ⟨acc, sm, _⟩ => .of (sm _ _ hlf7)) (fun i y H8 H' hi ⟨acc, sm, hDa, hla, ra⟩ hy => ?_) (fun H8 ⟨acc, sm, hDa, hla, ra⟩ => ?_)
          · obtain ⟨rfl, hy⟩ := hy
            obtain ⟨dd, gd, hdd⟩ := hdf7.at hy
            rw [List.getElem?_map] at gd
            obtain ⟨r, gr, rfl⟩ := Option.map_eq_some_iff.mp gd
            have s48 := s47.trans sm
            refine ⟨rfl, yes ⟨_, rfl, _, rfl, D, kvs, r, rfl, s48 _ _ hD4, hk4.to (same_ts s48), hdd.same sm, ?_⟩⟩
            rw [val_mem, show decide (r ∈ kvs.map (·.1)) = decide (r ∈ L) from by rw [Bool.eq_iff_iff, decide_eq_true_iff, decide_eq_true_iff]; exact hmem r]
            exact lcp_step nD3 sm hDa hla (by omega) (accB_snoc ra hla gr)
          · have ea := accB_end ra (by rw [hla, lfs])
            refine ⟨D3, (foll M p).map fun p => decide (p ∈ L), rfl, .of (by rw [← ea]; exact hDa), _, rfl, ?_⟩
            refine ifB (fun c => no H8 (s4.trans (s47.trans sm)) fun C => ?_) (fun c => ?_)
            · have c2 : ((foll M p).map fun p => decide (p ∈ L)).all id ≠ true := by
                intro e
                rw [e] at c
                cases c
              exact c2 ((all_ids _ _).mpr fun r hr => C.fo p hpL r hr)
            · have hf := (all_ids _ _).mp (by simpa using c : ((foll M p).map fun p => decide (p ∈ L)).all id = true)
              refine ⟨_, _, _, rfl, s47.trans sm, fun j r hj gj => ?_⟩
              rcases Nat.lt_succ_iff_lt_or_eq.mp hj with hj | rfl
              · exact hcov j r hj gj
              · rw [gp] at gj
                cases gj
                exact ⟨hnp, hf⟩
        · rintro σ H5 ⟨a3, a4, a5, rfl, s5, hcov⟩
          rw [lxs] at hcov
          have hall : ∀ r ∈ L, r ≠ doneP ∧ ∀ r' ∈ foll M r, r' ∈ L := fun r hr => by
            obtain ⟨j, hj⟩ := List.mem_iff_getElem?.mp hr
            exact hcov j r (List.getElem?_eq_some_iff.mp hj).1 hj
          exact q true ⟨fun _ => ⟨hnd, fun st l1 l2 p h1 h2 => hstL p (hSt.all st l1 l2 p h1 h2), fun p hp => (hall p hp).2, fun hd => (hall _ hd).1 rfl⟩, fun _ => rfl⟩ H5 (s4.trans s5)
end
end K67


/-! K4j: the law's draws and texts. -/
namespace K67
open PySem PySem.Spec PyProof.Rows L2
theorem upd_same_heap {H : Hp} {l : Addr} {o : HO} (h : H l = some o) : upd H l o = H := by
  funext b
  by_cases e : b = l
  · subst e
    rw [upd_same, h]
  · rw [upd_ne e]
/-- one letter of many -/
theorem ones_flat (ls : List Nat) : (ls.map fun c => [c]).flatten = ls := by
  induction ls with
  | nil => rfl
  | cons c ls ih => rw [List.map_cons, List.flatten_cons, ih]; rfl
section
variable {P : Program} {w : World} {K : PySem.W.Frag} {mg : Str → Option Value} {base : Heap}
theorem ok_law_number (T : Tx K mg) : FnOk P w K mg base CX0 1 T.f_law_number T.d_law_number ["_law_cell"] (sp_law_number) := by
  refine T.F_law_number.ok sc_law_number (fun vs H Q E h => ?_) (fun cdv A outer s H vs Q E hr h => ?_)
  · obtain ⟨i, rfl, _⟩ := h
    rfl
  · obtain ⟨i, rfl, q⟩ := h
    refine ⟨_, PSs.nox (pss_cons (ps_if (pt_cmpR op_lt (pv 0) pe_int (nomark _)) (pss_one (ps_ret (pe_op op_sub pe_int (pv 0)))) pss_nil) (pss_one (ps_ret (pv 0)))), ?_⟩
    refine ⟨_, rfl, _, _, rfl, rfl, _, rfl, ifB (fun c => ?_) (fun c => ?_)⟩
    · have c := of_decide_eq_true c
      refine ⟨_, rfl, _, _, rfl, rfl, ?_⟩
      have e : (0 : Int) - i = i.natAbs := by omega
      show Q (.int (0 - i)) H
      rw [e]
      exact q
    · have c := of_decide_eq_false c
      have e : i = i.natAbs := by omega
      refine ⟨_, rfl, ?_⟩
      rw [e]
      exact q
theorem ok_law_next (T : Tx K mg) : FnOk P w K mg base CX0 1 T.f_law_next T.d_law_next ["_law_draws_here"] (sp_law_next) := by
  refine T.F_law_next.ok sc_law_next (fun vs H Q E h => ?_) (fun cdv A outer s H vs Q E hr h => ?_)
  · obtain ⟨l, rfl, _⟩ := h
    rfl
  · obtain ⟨l, rfl, ⟨ns, hl, hn⟩, q⟩ := h
    refine ⟨_, PSs.nox (pss_cons (ps_if (pt_truth (pv 0) (fun _ => rfl)) (pss_one (ps_ret (pe_bm0 PySem.F.plainAttrs_list PySem.F.slot_list_pop PySem.F.type_list_pop mt_pop (pv 0)))) pss_nil) (pss_one (ps_ret pe_int))), ?_⟩
    refine ⟨_, rfl, _, .inl ⟨_, .of hl, rfl⟩, ifB (fun c => ?_) (fun c => ?_)⟩
    · have hne : ns ≠ [] := fun e => by
        rw [e] at c
        cases c
      have hlast : (ns.map V.int)[(ns.map V.int).length - 1]? = some (.int (ns.getLast hne)) := by
        rw [List.length_map, List.getElem?_map, ← List.getLast?_eq_getElem?, List.getLast?_eq_getLast hne]
        rfl
      refine ⟨.ref l, rfl, .inl ⟨rfl, _, .of hl⟩, l, _, _, rfl, rfl, hl, hlast, ?_⟩
      refine q _ _ ⟨fun b u n e => by rw [upd_ne n]; exact e, ns.dropLast, by rw [upd_same, List.map_dropLast], by rw [List.length_dropLast]; omega⟩ fun b n => upd_ne n
    · exact q 0 H (Dr.refl ⟨ns, hl, hn⟩) fun _ _ => rfl
theorem ok_law_draws (T : Tx K mg) : FnOk P w K mg base CX0 2 T.f_law_draws T.d_law_draws ["_law_script"] (sp_law_draws K) := by
  refine T.F_law_draws.ok sc_law_draws (fun vs H Q E h => ?_) (fun cdv A outer s H vs Q E hr h => ?_)
  · obtain ⟨a, ns, rfl, _⟩ := h
    rfl
  · obtain ⟨a, ns, rfl, hS, hn, q⟩ := h
    refine ⟨_, PSs.nox (pss_cons (ps_set (i := 1) sc_law_draws.nd rfl (by first | exact .inl rfl | exact .inr rfl) (pe_lst pa_nil)) (pss_cons (ps_for PassesOwn.never rfl (pi_list (pv 0)) (pg_name (i := 2) sc_law_draws.nd rfl (by first | exact .inl rfl | exact .inr rfl)) (pss_cons (ps_set (i := 3) sc_law_draws.nd rfl (by first | exact .inl rfl | exact .inr rfl) (pe_call (ok_law_number T) (hr.mono (by decide)) rfl T.g_law_number T.F_law_number.kp T.b_law_number .nil pass0 (pa_cons (pv 2) pa_nil))) (pss_one (ps_if (pt_cmpR op_ge (pv 3) pe_int (nomark _)) (pss_one (ps_for PassesOwn.never rfl (pi_range1 (by rfl) T.n_range (pa_cons pe_int pa_nil)) (pg_name (i := 4) sc_law_draws.nd rfl (by first | exact .inl rfl | exact .inr rfl)) (pss_cons (ps_if (pt_cmpR op_eq (pv 3) pe_int (nomark _)) (pss_one ps_break) pss_nil) (pss_cons (ps_expr (pe_bm PySem.F.plainAttrs_list PySem.F.slot_list_append PySem.F.type_list_append mt_append (pv 1) (pa_cons (pe_op op_mod (pe_callTy call_int1 rfl T.n_int boot_int (pa_cons (pv 3) pa_nil)) pe_int) pa_nil))) (pss_one (ps_set (i := 3) sc_law_draws.nd rfl (by first | exact .inl rfl | exact .inr rfl) (pe_op op_fdiv (pv 3) pe_int))))))) (pss_cons (ps_set (i := 5) sc_law_draws.nd rfl (by first | exact .inl rfl | exact .inr rfl) (pe_op op_mod (pe_callTy call_int1 rfl T.n_int boot_int (pa_cons (pe_op op_add (pe_op op_mul (pv 3) pe_int) pe_int) pa_nil)) pe_int)) (pss_cons (ps_set (i := 6) sc_law_draws.nd rfl (by first | exact .inl rfl | exact .inr rfl) (pe_op op_mod (pe_callTy call_int1 rfl T.n_int boot_int (pa_cons (pe_op op_add (pe_op op_mul (pv 5) pe_int) (pv 3)) pa_nil)) pe_int)) (pss_one (ps_expr (pe_bm PySem.F.plainAttrs_list PySem.F.slot_list_extend PySem.F.type_list_extend mt_extend (pv 1) (pa_cons (pe_lst (pa_cons (pe_op op_mod (pe_callTy call_int1 rfl T.n_int boot_int (pa_cons (pv 3) pa_nil)) pe_int) (pa_cons (pe_op op_mod (pe_callTy call_int1 rfl T.n_int boot_int (pa_cons (pv 5) pa_nil)) pe_int) (pa_cons (pe_op op_mod (pe_callTy call_int1 rfl T.n_int boot_int (pa_cons (pv 6) pa_nil)) pe_int) pa_nil)))) pa_nil)))))))))) (pss_one (ps_ret (pv 1))))), ?_⟩
    refine ⟨Nat.zero_le _, fun l nl => ?_⟩
    have s1 := same_new (o := .lst []) (Same.refl H) nl
    refine ⟨_, rfl, a, rfl, ⟨_, s1.seq hS⟩, for_list (K := K) (a := a) (xs := ns.map V.int) (fun i σ H' => ∃ (ds : List Int) (a2 a3 a4 a5 a6 : Option L2.V), σ = [some (.ref a), some (.ref l), a2, a3, a4, a5, a6] ∧ Same H H' ∧ H' l = some (.lst (ds.map V.int)) ∧ ds.length ≤ 60 * i)
      ⟨[], none, none, none, none, none, rfl, s1, upd_same, Nat.zero_le _⟩ (fun i σ H' _ ⟨_, _, _, _, _, _, _, sm, _⟩ => sm.seq hS) ?_ ?_⟩
    · rintro i x σ H1 hx ⟨ds, a2, a3, a4, a5, a6, rfl, sm, hl, hlen⟩
      have hi : i < 63 := by
        have := (List.getElem?_eq_some_iff.mp hx).1
        rw [List.length_map] at this
        omega
      rw [List.getElem?_map] at hx
      obtain ⟨n, gn, rfl⟩ := Option.map_eq_some_iff.mp hx
      refine ⟨_, rfl, n, rfl, ?_⟩
      refine ⟨_, rfl, _, _, rfl, rfl, _, rfl, ifB (fun c => ?_) (fun c => ?_)⟩
      · refine ⟨60, rfl, by decide, by decide, for_range (fun k σ H' => ∃ (ds' : List Int) (r : Int) (a4 a5 a6 : Option L2.V), σ = [some (.ref a), some (.ref l), some (.int n), some (.int r), a4, a5, a6] ∧ Same H H' ∧ H' l = some (.lst (ds'.map V.int)) ∧ ds'.length ≤ 60 * i + k)
          ⟨ds, _, _, _, _, rfl, sm, hl, by omega⟩ ?_ ?_⟩
        · rintro k σ H2 hk ⟨ds', r, b4, b5, b6, rfl, sm2, hl2, hlen2⟩
          have hk : k < 60 := hk
          refine ⟨_, rfl, rfl, _, rfl, ifB (fun c => ?_) (fun c => ?_)⟩
          · exact ⟨ds', _, _, _, _, _, rfl, sm2, hl2, by omega⟩
          · refine ⟨.ref l, rfl, .inl ⟨rfl, _, .of hl2⟩, _, rfl, .inl ⟨_, rfl, _, _, rfl, rfl, by show (0 : Int) < 1000; decide, l, _, _, rfl, rfl, hl2, by rw [List.length_map]; exact line_lt (by omega), ?_⟩⟩
            refine ⟨_, rfl, _, _, rfl, rfl, ⟨by show (0 : Int) < 1000; decide, by show (1000 : Int) < 1073741824; decide⟩, ?_⟩
            refine ⟨ds' ++ [r % 1000], r / 1000, _, _, _, rfl, same_set sm2 nl, by rw [upd_same, List.map_append]; rfl, by rw [List.length_append]; simp; omega⟩
        · rintro σ H2 ⟨ds', r, b4, b5, b6, rfl, sm2, hl2, hlen2⟩
          have hlen2 : ds'.length ≤ 60 * i + 60 := hlen2
          exact ⟨ds', _, _, _, _, _, rfl, sm2, hl2, by omega⟩
      · refine ⟨_, rfl, _, _, rfl, rfl, .inr ⟨by decide, by decide⟩, _, _, rfl, rfl, .inl ⟨_, rfl, _, _, rfl, rfl, by show (0 : Int) < 2147483647; decide, ?_⟩⟩
        refine ⟨_, rfl, _, _, rfl, rfl, .inr ⟨by decide, by decide⟩, _, rfl, _, _, rfl, rfl, .inl ⟨_, rfl, _, _, rfl, rfl, by show (0 : Int) < 2147483629; decide, ?_⟩⟩
        refine ⟨.ref l, rfl, .inl ⟨rfl, _, .of hl⟩, _, rfl, .inl ⟨_, rfl, _, _, rfl, rfl, by show (0 : Int) < 1000; decide, _, rfl, .inl ⟨_, rfl, _, _, rfl, rfl, by show (0 : Int) < 1000; decide, _, rfl, .inl ⟨_, rfl, _, _, rfl, rfl, by show (0 : Int) < 1000; decide, line_big (by show 3 ≤ 16000000; decide), fun b nb => ?_⟩⟩⟩⟩
        have nlb := ne_of_none hl nb
        refine ⟨l, b, _, _, rfl, rfl, by rw [upd_ne nlb]; exact hl, upd_same, by rw [List.length_map]; exact line_big (by show ds.length + 3 ≤ _; omega), ?_⟩
        refine ⟨ds ++ [_, _, _], _, _, _, _, _, rfl, same_set (same_new sm nb) nl, by rw [upd_same, List.map_append]; rfl, by rw [List.length_append]; simp; omega⟩
    · rintro σ H1 ⟨ds, a2, a3, a4, a5, a6, rfl, sm, hl, hlen⟩
      rw [List.length_map] at hlen
      exact ⟨_, rfl, q l ds H1 sm nl hl (by omega)⟩
theorem ok_law_text (T : Tx K mg) : FnOk P w K mg base CX0 2 T.f_law_text T.d_law_text ["_law_draws_here", "_law_k", "_law_most"] (sp_law_text) := by
  refine T.F_law_text.ok sc_law_text (fun vs H Q E h => ?_) (fun cdv A outer s H vs Q E hr h => ?_)
  · obtain ⟨l, k, n, rfl, _⟩ := h
    rfl
  · obtain ⟨l, k, n, rfl, dl, hk2, hk3, hn, q⟩ := h
    refine ⟨_, PSs.nox (pss_cons (ps_set (i := 3) sc_law_text.nd rfl (by first | exact .inl rfl | exact .inr rfl) (pe_op op_mod (pe_callTy call_int1 rfl T.n_int boot_int (pa_cons (pe_call (ok_law_next T) (hr.mono (by decide)) rfl T.g_law_next T.F_law_next.kp T.b_law_next .nil pass0 (pa_cons (pv 0) pa_nil)) pa_nil)) (pe_op op_add (pv 2) pe_int))) (pss_one (ps_ret (pe_join pe_str (pe_lc rfl sc_law_text.nd (pi_range1 (by rfl) T.n_range (pa_cons (pv 3) pa_nil)) (blkOk_by (own := [("_law_j", 4)]) (by rfl)) (fun _ _ _ _ _ => (pg_name (i := 4) sc_law_text.nd rfl (by first | exact .inl rfl | exact .inr rfl))) (fun _ _ _ _ _ => pts_nil) (fun _ _ _ _ _ => (pe_ix ix_str pe_str (pe_op op_mod (pe_callTy call_int1 rfl T.n_int boot_int (pa_cons (pe_call (ok_law_next T) (hr.mono (by decide)) rfl T.g_law_next T.F_law_next.kp T.b_law_next .nil pass0 (pa_cons (pv 0) pa_nil)) pa_nil)) (pv 1)) (fun _ _ => rfl)))))))), ?_⟩
    refine ⟨_, rfl, l, rfl, dl, fun i H1 d1 e1 => ?_⟩
    refine .inl ⟨_, rfl, _, rfl, _, _, rfl, rfl, _, _, rfl, rfl, by omega, ?_⟩
    have hs0 : 0 ≤ i % ((n : Int) + 1) := Int.emod_nonneg _ (by omega)
    have hs1 : i % ((n : Int) + 1) < n + 1 := Int.emod_lt_of_pos _ (by omega)
    obtain ⟨sz, esz⟩ : ∃ sz : Nat, i % ((n : Int) + 1) = sz := ⟨(i % ((n : Int) + 1)).toNat, by omega⟩
    dsimp only
    rw [esz]
    refine ⟨⟨_, rfl⟩, _, rfl, (sz : Int), rfl, by omega, by omega, fun D nD => ?_⟩
    have nlD : l ≠ D := fun e => by
      obtain ⟨_, h, _⟩ := d1.dl
      rw [e, nD] at h
      cases h
    refine lc_range (n := ((sz : Int)).toNat) (fun j H' => ∃ ls : List Nat, Dr l H1 H' ∧ H' D = some (.lst (ls.map fun c => .str (S [c]))) ∧ ls.length = j ∧ Let k ls) ⟨[], (Dr.refl d1.dl).put nD nlD, upd_same, rfl, let_nil⟩ ?_ ?_
    · rintro j H2 hj ⟨ls, d2, hD, hls, hlet⟩
      refine ⟨rfl, yes ⟨_, rfl, l, rfl, d2.dl, fun i2 H3 d3 e3 => ?_⟩⟩
      have hr0 : 0 ≤ i2 % (k : Int) := Int.emod_nonneg _ (by omega)
      have hr1 : i2 % (k : Int) < k := Int.emod_lt_of_pos _ (by omega)
      obtain ⟨r, er⟩ : ∃ r : Nat, i2 % (k : Int) = r := ⟨(i2 % (k : Int)).toNat, by omega⟩
      refine .inl ⟨_, rfl, _, rfl, _, _, rfl, rfl, by omega, _, _, _, rfl, rfl, line_big (by decide), (by rw [er]; exact letter_at (by omega)), ?_⟩
      have hD3 : H3 D = some (.lst (ls.map fun c => .str (S [c]))) := by rw [e3 D nlD.symm]; exact hD
      refine ⟨_, hD3, by rw [List.length_map, hls]; exact line_lt (by omega), ls ++ [97 + r], (d2.trans d3).put nD nlD, by rw [upd_same, List.map_append]; rfl, by rw [List.length_append, hls]; rfl, let_app hlet (let_one (by omega))⟩
    · rintro H2 ⟨ls, d2, hD, hls, hlet⟩
      have hls : ls.length = sz := by rw [hls]; omega
      refine ⟨_, D, (ls.map fun c => [c]).map S, rfl, rfl, .inl (.of (by rw [hD, List.map_map, List.map_map]; rfl)), ?_, ?_⟩
      · rw [sum_len, ones_flat]
        show _ + _ * 0 ≤ _
        omega
      · rw [join_S, ones_flat]
        exact q ls H2 hlet (by omega) (d1.trans d2)
theorem ok_law_out (T : Tx K mg) : FnOk P w K mg base CX0 3 T.f_law_out T.d_law_out ["_law_draws_here", "_law_k", "_law_letter"] (sp_law_out) := by
  refine T.F_law_out.ok sc_law_out (fun vs H Q E h => ?_) (fun cdv A outer s H vs Q E hr h => ?_)
  · obtain ⟨l, k, j, rfl, _⟩ := h
    rfl
  · obtain ⟨l, k, j, rfl, dl, hk2, hk3, hj, q⟩ := h
    refine ⟨_, PSs.nox (pss_cons (ps_set (i := 3) sc_law_out.nd rfl (by first | exact .inl rfl | exact .inr rfl) (pe_op op_mod (pe_callTy call_int1 rfl T.n_int boot_int (pa_cons (pe_call (ok_law_next T) (hr.mono (by decide)) rfl T.g_law_next T.F_law_next.kp T.b_law_next .nil pass0 (pa_cons (pv 0) pa_nil)) pa_nil)) pe_int)) (pss_cons (ps_if (pt_cmpR op_lt (pv 3) pe_int (nomark _)) (pss_one (ps_ret (pe_ix ix_str pe_str (pv 2) (fun _ _ => rfl)))) pss_nil) (pss_cons (ps_if (pt_cmpR op_eq (pv 3) pe_int (nomark _)) (pss_one (ps_ret pe_str)) pss_nil) (pss_one (ps_ret (pe_call (ok_law_text T) (hr.mono (by decide)) rfl T.g_law_text T.F_law_text.kp T.b_law_text .nil pass0 (pa_cons (pv 0) (pa_cons (pv 1) (pa_cons (pe_op op_sub (pv 3) pe_int) pa_nil))))))))), ?_⟩
    refine ⟨_, rfl, l, rfl, dl, fun i H1 d1 e1 => ?_⟩
    refine .inl ⟨_, rfl, _, _, rfl, rfl, by show (0 : Int) < 6; decide, ?_⟩
    have hs0 : 0 ≤ i % 6 := Int.emod_nonneg _ (by decide)
    have hs1 : i % 6 < 6 := Int.emod_lt_of_pos _ (by decide)
    refine ⟨_, rfl, _, _, rfl, rfl, _, rfl, ifB (fun c => ?_) (fun c => ?_)⟩
    · refine ⟨_, rfl, _, j, _, rfl, rfl, line_big (by decide), letter_at (by omega), ?_⟩
      exact q [97 + j] H1 (let_one hj) (by simp) d1
    · have c := of_decide_eq_false c
      refine ⟨_, rfl, rfl, _, rfl, ifB (fun c2 => ?_) (fun c2 => ?_)⟩
      · have := q [] H1 let_nil (by simp) d1
        rw [S_nil] at this
        exact this
      · have c2 : i % 6 ≠ 3 := fun e => of_decide_eq_false c2 (by show V.int (i % 6) = V.int 3; rw [e])
        obtain ⟨r, er⟩ : ∃ r : Nat, i % 6 - 3 = r := ⟨(i % 6 - 3).toNat, by omega⟩
        refine ⟨_, rfl, _, rfl, _, rfl, _, _, rfl, rfl, l, k, r, by dsimp only; rw [er]; rfl, d1.dl, hk2, hk3, by omega, fun x H2 hx hlen d2 => q x H2 hx (by omega) (d1.trans d2)⟩
end
end K67


/-! K4k: the law's machine. -/
namespace K67
open PySem PySem.Spec PyProof.Rows L2
theorem int_dat {H : Hp} {i j : Int} (h : i = j) : Dat H (.int i) (.int j) := by
  rw [h]
  exact .int _
theorem dl_ne {H : Hp} {l D : Addr} (d : DL H l) (n : H D = none) : l ≠ D := fun e => by
  obtain ⟨_, h, _⟩ := d
  rw [e, n] at h
  cases h
section
variable {P : Program} {w : World} {K : PySem.W.Frag} {mg : Str → Option Value} {base : Heap}
theorem ok_law_machine (T : Tx K mg) : FnOk P w K mg base CX0 4 T.f_law_machine T.d_law_machine ["_law_draws_here", "_law_k", "_law_most"] (sp_law_machine) := by
  refine T.F_law_machine.ok sc_law_machine (fun vs H Q E h => ?_) (fun cdv A outer s H vs Q E hr h => ?_)
  · obtain ⟨l, k, rfl, _⟩ := h
    rfl
  · obtain ⟨l, k, rfl, dl, hk2, hk3, q⟩ := h
    refine ⟨_, PSs.nox (pss_cons (ps_set (i := 3) sc_law_machine.nd rfl (by first | exact .inl rfl | exact .inr rfl) (pe_op op_add pe_int (pe_op op_mod (pe_callTy call_int1 rfl T.n_int boot_int (pa_cons (pe_call (ok_law_next T) (hr.mono (by decide)) rfl T.g_law_next T.F_law_next.kp T.b_law_next .nil pass0 (pa_cons (pv 0) pa_nil)) pa_nil)) (pv 2)))) (pss_cons (ps_set (i := 4) sc_law_machine.nd rfl (by first | exact .inl rfl | exact .inr rfl) (pe_lst pa_nil)) (pss_cons (ps_for PassesOwn.never rfl (pi_range1 (by rfl) T.n_range (pa_cons (pv 3) pa_nil)) (pg_name (i := 5) sc_law_machine.nd rfl (by first | exact .inl rfl | exact .inr rfl)) (pss_cons (ps_set (i := 6) sc_law_machine.nd rfl (by first | exact .inl rfl | exact .inr rfl) (pe_lst pa_nil)) (pss_cons (ps_for PassesOwn.never rfl (pi_range1 (by rfl) T.n_range (pa_cons (pv 1) pa_nil)) (pg_name (i := 7) sc_law_machine.nd rfl (by first | exact .inl rfl | exact .inr rfl)) (pss_cons (ps_set (i := 8) sc_law_machine.nd rfl (by first | exact .inl rfl | exact .inr rfl) (pe_call (ok_law_out T) (hr.mono (by decide)) rfl T.g_law_out T.F_law_out.kp T.b_law_out .nil pass0 (pa_cons (pv 0) (pa_cons (pv 1) (pa_cons (pv 7) pa_nil))))) (pss_one (ps_expr (pe_bm PySem.F.plainAttrs_list PySem.F.slot_list_append PySem.F.type_list_append mt_append (pv 6) (pa_cons (pe_tup (pa_cons (pv 8) (pa_cons (pe_op op_mod (pe_callTy call_int1 rfl T.n_int boot_int (pa_cons (pe_call (ok_law_next T) (hr.mono (by decide)) rfl T.g_law_next T.F_law_next.kp T.b_law_next .nil pass0 (pa_cons (pv 0) pa_nil)) pa_nil)) (pv 3)) pa_nil))) pa_nil)))))) (pss_cons (ps_set (i := 9) sc_law_machine.nd rfl (by first | exact .inl rfl | exact .inr rfl) pe_str) (pss_cons (ps_if (pt_cmpR op_eq (pe_op op_mod (pe_callTy call_int1 rfl T.n_int boot_int (pa_cons (pe_call (ok_law_next T) (hr.mono (by decide)) rfl T.g_law_next T.F_law_next.kp T.b_law_next .nil pass0 (pa_cons (pv 0) pa_nil)) pa_nil)) pe_int) pe_int (nomark _)) (pss_one (ps_set (i := 9) sc_law_machine.nd rfl (by first | exact .inl rfl | exact .inr rfl) (pe_call (ok_law_text T) (hr.mono (by decide)) rfl T.g_law_text T.F_law_text.kp T.b_law_text .nil pass0 (pa_cons (pv 0) (pa_cons (pv 1) (pa_cons pe_int pa_nil)))))) pss_nil) (pss_one (ps_expr (pe_bm PySem.F.plainAttrs_list PySem.F.slot_list_append PySem.F.type_list_append mt_append (pv 4) (pa_cons (pe_tup (pa_cons (pv 9) (pa_cons (pe_callTy call_tuple_of rfl T.n_tuple boot_tuple (pa_cons (pv 6) pa_nil)) pa_nil))) pa_nil))))))))) (pss_one (ps_ret (pe_tup (pa_cons (pv 1) (pa_cons (pe_call (ok_law_text T) (hr.mono (by decide)) rfl T.g_law_text T.F_law_text.kp T.b_law_text .nil pass0 (pa_cons (pv 0) (pa_cons (pv 1) (pa_cons (pe_op op_mod (pe_callTy call_int1 rfl T.n_int boot_int (pa_cons (pe_call (ok_law_next T) (hr.mono (by decide)) rfl T.g_law_next T.F_law_next.kp T.b_law_next .nil pass0 (pa_cons (pv 0) pa_nil)) pa_nil)) pe_int) pa_nil)))) (pa_cons (pe_callTy call_tuple_of rfl T.n_tuple boot_tuple (pa_cons (pv 4) pa_nil)) pa_nil))))))))), ?_⟩
    refine ⟨_, rfl, l, rfl, dl, fun i H1 d1 e1 => ?_⟩
    refine .inl ⟨_, rfl, _, rfl, _, _, rfl, rfl, by show (0 : Int) < 3; decide, _, _, rfl, rfl, ?_⟩
    have hs0 : 0 ≤ i % 3 := Int.emod_nonneg _ (by decide)
    have hs1 : i % 3 < 3 := Int.emod_lt_of_pos _ (by decide)
    obtain ⟨n, en, hn1, hn3⟩ : ∃ n : Nat, 1 + i % 3 = n ∧ 1 ≤ n ∧ n ≤ 3 := ⟨(1 + i % 3).toNat, by omega, by omega, by omega⟩
    dsimp only
    rw [en]
    refine ⟨Nat.zero_le _, fun r nr => ?_⟩
    have nlr := dl_ne d1.dl nr
    have d2 := (Dr.refl d1.dl).put (o := .lst []) nr nlr
    refine ⟨_, rfl, (n : Int), rfl, by omega, by omega, for_range (n := ((n : Int)).toNat) (fun j σ H' => ∃ (rws : List (W × List (W × Nat))) (xs : List L2.V) (a5 a6 a7 a8 a9 : Option L2.V), σ = [some (.ref l), some (.int k), some (.int 3), some (.int n), some (.ref r), a5, a6, a7, a8, a9] ∧ Dr l H1 H' ∧ H' r = some (.lst xs) ∧ Dats H' xs (rws.map rowD) ∧ rws.length = j ∧ ∀ x ∈ rws, RowOk k n x)
      ⟨[], [], none, none, none, none, none, rfl, d2, upd_same, .nil, rfl, fun x hx => absurd hx List.not_mem_nil⟩ ?_ ?_⟩
    · rintro j σ H2 hj ⟨rws, xs, a5, a6, a7, a8, a9, rfl, dr, hr2, hd, hlen, hok⟩
      have hj : j < n := by omega
      have lxs : xs.length = j := by rw [hd.length, List.length_map, hlen]
      refine ⟨Nat.zero_le _, fun e ne => ?_⟩
      have nle := dl_ne dr.dl ne
      have nre := ne_of_none hr2 ne
      have dr2 := (Dr.refl dr.dl).put (o := .lst []) ne nle
      refine ⟨_, rfl, (k : Int), rfl, by omega, by omega, for_range (n := ((k : Int)).toNat) (fun c σ H' => ∃ (ens : List (W × Nat)) (ys : List L2.V) (a7 a8 a9 : Option L2.V), σ = [some (.ref l), some (.int k), some (.int 3), some (.int n), some (.ref r), some (.int (0 + j)), some (.ref e), a7, a8, a9] ∧ Dr l H2 H' ∧ H' e = some (.lst ys) ∧ Dats H' ys (ens.map enD) ∧ ens.length = c ∧ ∀ x ∈ ens, Let k x.1 ∧ x.1.length ≤ 2 ∧ x.2 < n)
        ⟨[], [], _, _, _, rfl, dr2, upd_same, .nil, rfl, fun x hx => absurd hx List.not_mem_nil⟩ ?_ ?_⟩
      · rintro c σ H3 hc ⟨ens, ys, a7, a8, a9, rfl, d3, he3, hd3, hlen3, hok3⟩
        have hc : c < k := by omega
        refine ⟨_, rfl, _, rfl, _, rfl, l, k, c, by rw [Int.zero_add]; rfl, d3.dl, hk2, hk3, hc, fun x H4 hx hxl d4 => ?_⟩
        have he4 : H4 e = some (.lst ys) := d4.keep _ _ nle.symm he3
        refine ⟨.ref e, rfl, .inl ⟨rfl, _, .of he4⟩, _, rfl, _, rfl, l, rfl, d4.dl, fun i5 H5 d5 e5 => ?_⟩
        have hr0 : 0 ≤ i5 % (n : Int) := Int.emod_nonneg _ (by omega)
        have hr1 : i5 % (n : Int) < n := Int.emod_lt_of_pos _ (by omega)
        obtain ⟨m, em⟩ : ∃ m : Nat, i5 % (n : Int) = m := ⟨(i5 % (n : Int)).toNat, by omega⟩
        refine .inl ⟨_, rfl, _, rfl, _, _, rfl, rfl, by omega, line_big (by show 2 ≤ 16000000; decide), fun t nt => ?_⟩
        have he5 : H5 e = some (.lst ys) := d5.keep _ _ nle.symm he4
        have d45 := (d3.trans d4).trans d5
        have he6 : (upd H5 t (.tup [.str (S x), .int (i5 % (n : Int))])) e = some (.lst ys) := by rw [upd_ne (ne_of_none he5 nt)]; exact he5
        refine ⟨e, ys, _, rfl, rfl, he6, by rw [hd3.length, List.length_map, hlen3]; exact line_lt (by omega), ?_⟩
        refine ⟨ens ++ [(x, m)], ys ++ [.ref t], _, _, _, rfl, (d45.new nt).put ne nle, upd_same, ?_, by rw [List.length_append, hlen3]; rfl, fun y hy => ?_⟩
        · rw [List.map_append]
          refine Dats.to ?_ (ts_lst he6)
          refine ((hd3.to ((d4.trans d5).ts d3.dl)).to (ts_new nt)).snoc (.tup upd_same (.cons (.str _) (.cons (int_dat em) .nil)))
        · rcases List.mem_append.mp hy with hy | hy
          · exact hok3 y hy
          · have e : y = (x, m) := by simpa using hy
            subst e
            exact ⟨hx, hxl, by show m < n; omega⟩
      · rintro σ H3 ⟨ens, ys, a7, a8, a9, rfl, d3, he3, hd3, hlen3, hok3⟩
        have hlen3 : ens.length = k := by omega
        -- last = '' ; perhaps a text
        have hr3 : H3 r = some (.lst xs) := d3.keep _ _ nlr.symm hr2
        have fin : ∀ (x : W) (H4 : Hp) (a7 a8 : Option L2.V), Let k x → x.length ≤ 2 → Dr l H3 H4 → tDrop (tBM K "list" rAppend (tVar 4) (tCons (tTup (tCons (tVar 9) (tCons (tCB (fun xs H Q => ∃ p ys, xs = [V.ref p] ∧ ((SqL K H p ys ∧ ∀ l, H l = none → Q (.ref l) (upd H l (.tup ys))) ∨ (SqT K H p ys ∧ Q (.ref p) H))) (tCons (tVar 6) tNil)) tNil))) tNil))
            { nx := fun σ H' => ∃ (rws : List (W × List (W × Nat))) (xs : List L2.V) (a5 a6 a7 a8 a9 : Option L2.V), σ = [some (.ref l), some (.int k), some (.int 3), some (.int n), some (.ref r), a5, a6, a7, a8, a9] ∧ Dr l H1 H' ∧ H' r = some (.lst xs) ∧ Dats H' xs (rws.map rowD) ∧ rws.length = j + 1 ∧ ∀ x ∈ rws, RowOk k n x, rt := Q }
            [some (.ref l), some (.int k), some (.int 3), some (.int n), some (.ref r), some (.int (0 + j)), some (.ref e), a7, a8, some (.str (S x))] H4 := by
          intro x H4 b7 b8 hx hxl d4
          have hr4 : H4 r = some (.lst xs) := d4.keep _ _ nlr.symm hr3
          have he4 : H4 e = some (.lst ys) := d4.keep _ _ nle.symm he3
          refine ⟨.ref r, rfl, .inl ⟨rfl, _, .of hr4⟩, _, rfl, _, rfl, e, ys, rfl, .inl ⟨.of he4, fun t nt => ⟨line_big (by show 2 ≤ 16000000; decide), fun t2 nt2 => ?_⟩⟩⟩
          have n12 : t ≠ t2 := fun z => by rw [z] at nt2; rw [upd_same] at nt2; cases nt2
          have hr5 : (upd (upd H4 t (.tup ys)) t2 (.tup [.str (S x), .ref t])) r = some (.lst xs) := by rw [upd_ne (ne_of_none (by rw [upd_ne (ne_of_none hr4 nt)]; exact hr4) nt2), upd_ne (ne_of_none hr4 nt)]; exact hr4
          refine ⟨r, xs, _, rfl, rfl, hr5, by rw [lxs]; exact line_lt (by omega), ?_⟩
          have d6 : Dr l H1 (upd (upd H4 t (.tup ys)) t2 (.tup [.str (S x), .ref t])) := (((dr.trans d3).trans d4).new nt).new nt2
          have tsn : TS H4 (upd (upd H4 t (.tup ys)) t2 (.tup [.str (S x), .ref t])) := (ts_new nt).trans (ts_new nt2)
          refine ⟨rws ++ [(x, ens)], xs ++ [.ref t2], _, _, _, _, _, rfl, d6.put nr nlr, upd_same, ?_, by rw [List.length_append, hlen]; rfl, fun y hy => ?_⟩
          · rw [List.map_append]
            refine Dats.to ?_ (ts_lst hr5)
            refine ((hd.to (((d3.trans d4).ts dr.dl))).to tsn).snoc (.tup upd_same (.cons (.str _) (.cons (.tup (by rw [upd_ne n12]; exact upd_same) ((hd3.to (d4.ts d3.dl)).to tsn)) .nil)))
          · rcases List.mem_append.mp hy with hy | hy
            · exact hok y hy
            · have e : y = (x, ens) := by simpa using hy
              subst e
              exact ⟨hx, hxl, hlen3, hok3⟩
        refine ⟨_, rfl, l, rfl, d3.dl, fun i6 H6 d6 e6 => ?_⟩
        refine .inl ⟨_, rfl, _, _, rfl, rfl, by show (0 : Int) < 3; decide, rfl, _, rfl, ifB (fun c => ?_) (fun c => ?_)⟩
        · exact ⟨_, rfl, _, rfl, l, k, 2, rfl, d6.dl, hk2, hk3, by decide, fun x H7 hx hxl d7 => fin x H7 _ _ hx hxl (d6.trans d7)⟩
        · have := fin [] H6 a7 a8 let_nil (by simp) d6
          rw [S_nil] at this
          exact this
    · rintro σ H2 ⟨rws, xs, a5, a6, a7, a8, a9, rfl, dr, hr2, hd, hlen, hok⟩
      have hlen : rws.length = n := by omega
      refine ⟨_, rfl, _, rfl, _, rfl, _, rfl, l, rfl, dr.dl, fun i6 H6 d6 e6 => ?_⟩
      have hr0 : 0 ≤ i6 % 2 := Int.emod_nonneg _ (by decide)
      have hr1 : i6 % 2 < 2 := Int.emod_lt_of_pos _ (by decide)
      obtain ⟨z, ez⟩ : ∃ z : Nat, i6 % 2 = z := ⟨(i6 % 2).toNat, by omega⟩
      refine .inl ⟨_, rfl, _, _, rfl, rfl, by show (0 : Int) < 2; decide, l, k, z, by dsimp only; rw [ez]; rfl, d6.dl, hk2, hk3, by omega, fun x H7 hx hxl d7 => ?_⟩
      have hr7 : H7 r = some (.lst xs) := (d6.trans d7).keep _ _ nlr.symm hr2
      refine ⟨_, rfl, r, xs, rfl, .inl ⟨.of hr7, fun t nt => ⟨line_big (by show 3 ≤ 16000000; decide), fun t2 nt2 => ?_⟩⟩⟩
      have n12 : t ≠ t2 := fun z => by rw [z] at nt2; rw [upd_same] at nt2; cases nt2
      have tsn : TS H7 (upd (upd H7 t (.tup xs)) t2 (.tup [.int k, .str (S x), .ref t])) := (ts_new nt).trans (ts_new nt2)
      refine q ⟨k, x, rws⟩ _ _ ⟨hk2, hk3, by show 1 ≤ rws.length; omega, by show rws.length ≤ 3; omega, hx, by show x.length ≤ 2; omega, fun y hy => ?_⟩ rfl ((((d1.trans dr).trans (d6.trans d7)).new nt).new nt2) (.tup upd_same (.cons (.int _) (.cons (.str _) (.cons (.tup (by rw [upd_ne n12]; exact upd_same) ((hd.to ((d6.trans d7).ts dr.dl)).to tsn)) .nil))))
      have h4 := hok y hy
      rw [← hlen] at h4
      exact h4
end
end K67


/-! K4l: the law's drawn machine. -/
namespace K67
open PySem PySem.Spec PyProof.Rows L2
def rI1 : List V → Hp → VK → Prop := fun xs H Q => (∃ i, xs = [V.int i] ∧ Q (V.int i) H) ∨ ∃ k, xs = [V.bl k] ∧ Q (V.int (if k = true then 1 else 0)) H
def rTo (K : PySem.W.Frag) : List V → Hp → VK → Prop := fun xs H Q => ∃ p ys, xs = [V.ref p] ∧ ((SqL K H p ys ∧ ∀ l, H l = none → Q (.ref l) (upd H l (.tup ys))) ∨ (SqT K H p ys ∧ Q (.ref p) H))
def rAdS : R2 := fun x y H Q => ∃ i j, x = V.str i ∧ y = V.str j ∧ i.length + j.length ≤ sizeLine ∧ Q (V.str (i ++ j)) H
def dT2 (K : PySem.W.Frag) : L2.TS := tDrop (tBM K "list" rAppend (tVar 4) (tCons (tTup (tCons (tSl rSlS (tVar 5) tNoPart (tPart (tC (V.int 1)))) (tCons (tCB (rTo K) (tCons (tLc (iRng1 (tCons (tVar 1) tNil)) (gName 9) tYes (tTup (tCons (tOp (rIxL K) (tVar 8) (tVar 9)) (tCons (tOp (rIxT K) (tOp (rIxT K) (tVar 6) (tVar 9)) (tC (V.int 1))) tNil))) [9]) tNil)) tNil))) tNil))
def dT1 (K : PySem.W.Frag) : L2.TS := tSeq (tIfS (tAnd (tTest (tOp rEq (tVar 2) (tC (V.int 3)))) (tTest (tOp rEq (tOp (rI (fun x j => 0 < j) fun i j => V.int (i % j)) (tCB rI1 (tCons (tCall sp_law_next [] E0 (tCons (tVar 0) tNil)) tNil)) (tC (V.int 2))) (tC (V.int 0)))))
  (tAsg (tOp rAdS (tOp (rIxL K) (tVar 8) (tC (V.int 0))) (tOp (rIxL K) (tVar 8) (tC (V.int 1)))) (gSub (tVar 8) (tC (V.int 0)) rSetL)) tNext) (dT2 K)
def DPv (l : Addr) (k n : Nat) (kd : Int) (v : V) (r : Addr) (H3 : Hp) (j : Nat) (σ : L2.St) (H' : Hp) : Prop := ∃ (rws : List (W × List (W × Nat))) (xs : List V) (a5 a6 a7 a8 a9 a10 : Option V), σ = [some (.ref l), some (.int k), some (.int kd), some v, some (.ref r), a5, a6, a7, a8, a9, a10] ∧
  Dr l H3 H' ∧ H' r = some (.lst xs) ∧ Dats H' xs (rws.map rowD) ∧ rws.length = j ∧ ∀ x ∈ rws, RowOk k n x
def txL (os : List W) : List V := os.map fun x => .str (S x)
structure DSt (l : Addr) (k n : Nat) (r : Addr) (H3 H : Hp) (j : Nat) (la : W) (e o : Addr) (os : List W) : Prop where
  rows : ∃ (rws : List (W × List (W × Nat))) (xs : List V), Dr l H3 H ∧ H r = some (.lst xs) ∧ Dats H xs (rws.map rowD) ∧ rws.length = j ∧ ∀ x ∈ rws, RowOk k n x
  j3 : j ≤ 3
  nr : H3 r = none
  nlr : l ≠ r
  hla : Let k la
  la2 : la.length ≤ 2
  ents : ∃ (es : List V) (ens : List (W × Nat)), H e = some (.tup es) ∧ Dats H es (ens.map enD) ∧ ens.length = k ∧ ∀ x ∈ ens, x.2 < n
  ho : H o = some (.lst (txL os))
  no : H3 o = none
  nlo : l ≠ o
  nro : r ≠ o
  los : os.length = k
  hos : ∀ x ∈ os, Let k x ∧ x.length ≤ 2
theorem DSt.step {l : Addr} {k n : Nat} {r : Addr} {H3 H H' : Hp} {j : Nat} {la : W} {e o : Addr} {os : List W} (x : DSt l k n r H3 H j la e o os) (d : Dr l H H') : DSt l k n r H3 H' j la e o os := by
  obtain ⟨rws, xs, h1, h2, h3, h4, h5⟩ := x.rows
  obtain ⟨es, ens, g1, g2, g3, g4⟩ := x.ents
  have ts := d.ts h1.dl
  exact ⟨⟨rws, xs, h1.trans d, d.keep _ _ x.nlr.symm h2, h3.to ts, h4, h5⟩, x.j3, x.nr, x.nlr, x.hla, x.la2, ⟨es, ens, ts _ _ g1, g2.to ts, g3, g4⟩, d.keep _ _ x.nlo.symm x.ho, x.no, x.nlo, x.nro, x.los, x.hos⟩
theorem drawn_t2 {K : PySem.W.Frag} {l : Addr} {k n : Nat} {kd : Int} {v : V} {r : Addr} {H3 H : Hp} {j : Nat} {la : W} {e o : Addr} {os : List W} {D : Ends} {a7 a9 a10 : Option V} (hk2 : 2 ≤ k) (hk3 : k ≤ 3) (x : DSt l k n r H3 H j la e o os) (hD : ∀ σ H, DPv l k n kd v r H3 (j + 1) σ H → D.nx σ H) :
    dT2 K D [some (.ref l), some (.int k), some (.int kd), some v, some (.ref r), some (.str (S la)), some (.ref e), a7, some (.ref o), a9, a10] H := by
  obtain ⟨rws, xs, h1, h2, h3, h4, h5⟩ := x.rows
  obtain ⟨es, ens, g1, g2, g3, g4⟩ := x.ents
  have lxs : xs.length = j := by rw [h3.length, List.length_map, h4]
  have hj := x.j3
  refine ⟨.ref r, rfl, .inl ⟨rfl, _, .of h2⟩, _, rfl, 1, rfl, S la, rfl, line_big (by rw [S_len]; have := x.la2; omega), ?_⟩
  refine ⟨_, rfl, (k : Int), rfl, by omega, by omega, fun C nC => ?_⟩
  refine lc_range (n := ((k : Int)).toNat) (LcP (fun acc H' => ∃ en' : List (W × Nat), Dats H' acc (en'.map enD) ∧ ∀ y ∈ en', Let k y.1 ∧ y.1.length ≤ 2 ∧ y.2 < n) H C) (lcp_zero nC ⟨[], .nil, fun y hy => absurd hy List.not_mem_nil⟩) ?_ ?_
  · rintro i H4 hi ⟨acc, sm, hC, hla, en', dE, okE⟩
    have hi : i < k := by omega
    have go : os[i]? = some (os[i]'(by rw [x.los]; exact hi)) := List.getElem?_eq_getElem _
    generalize os[i]'(by rw [x.los]; exact hi) = ox at go
    have ge : ens[i]? = some (ens[i]'(by rw [g3]; exact hi)) := List.getElem?_eq_getElem _
    generalize ens[i]'(by rw [g3]; exact hi) = ex at ge
    obtain ⟨ea, gea, hea⟩ := en_at g2 ge
    obtain ⟨o1, o2⟩ := x.hos ox (List.mem_of_getElem? go)
    have z : (0 : Int) + (i : Nat) = (i : Nat) := Int.zero_add _
    refine ⟨rfl, yes ⟨_, rfl, _, rfl, o, txL os, i, .str (S ox), rfl, by rw [z], .of (sm _ _ x.ho), atI_nat (by unfold txL; rw [List.getElem?_map, go]; rfl), _, rfl, _, rfl, e, es, i, _, rfl, by rw [z], .of (sm _ _ g1), atI_nat gea, ea, _, 1, _, rfl, rfl, .of (sm _ _ hea), rfl, line_big (by show 2 ≤ 16000000; decide), fun t nt => ?_⟩⟩
    have s5 := same_new (o := .tup [.str (S ox), .int (ex.2 : Nat)]) (Same.refl H4) nt
    have hC5 := s5 _ _ hC
    refine lcp_step nC (sm.trans s5) hC5 hla (by omega) ⟨en' ++ [(ox, ex.2)], ?_, fun y hy => ?_⟩
    · rw [List.map_append]
      exact ((dE.same s5).snoc (.tup upd_same (.cons (.str _) (.cons (.int _) .nil)))).to (ts_lst hC5)
    · rcases List.mem_append.mp hy with hy | hy
      · exact okE y hy
      · have e : y = (ox, ex.2) := by simpa using hy
        subst e
        exact ⟨o1, o2, g4 ex (List.mem_of_getElem? ge)⟩
  · rintro H4 ⟨acc, sm, hC, hla, en', dE, okE⟩
    have len' : en'.length = k := by
      have := dE.length
      rw [List.length_map] at this
      omega
    refine ⟨C, acc, rfl, .inl ⟨.of hC, fun t nt => ⟨line_big (by show 2 ≤ 16000000; decide), fun t2 nt2 => ?_⟩⟩⟩
    have n12 : t ≠ t2 := fun z => by rw [z] at nt2; rw [upd_same] at nt2; cases nt2
    have s6 := same_new (o := .tup [.str (cutS (S la) none (some 1)), .ref t]) (same_new (o := .tup acc) (Same.refl H4) nt) nt2
    have s7 := sm.trans s6
    have hr7 := s7 _ _ h2
    have ec : cutS (S la) none (some 1) = S (la.take 1) := cut_take la 1
    refine ⟨r, xs, _, rfl, rfl, hr7, by rw [lxs]; exact line_lt (by omega), ?_⟩
    refine hD _ _ ⟨rws ++ [(la.take 1, en')], xs ++ [.ref t2], _, _, _, _, _, _, rfl, (h1.trans (.of_same h1.dl s7)).put x.nr x.nlr, upd_same, ?_, by rw [List.length_append, h4]; rfl, fun y hy => ?_⟩
    · rw [List.map_append]
      refine Dats.to ?_ (ts_lst hr7)
      refine (h3.same s7).snoc (.tup upd_same (.cons (by rw [ec]; exact .str _) (.cons (.tup (by rw [upd_ne n12]; exact upd_same) (dE.same s6)) .nil)))
    · rcases List.mem_append.mp hy with hy | hy
      · exact h5 y hy
      · have e : y = (la.take 1, en') := by simpa using hy
        subst e
        exact ⟨fun c hc => x.hla c (List.mem_of_mem_take hc), by show (la.take 1).length ≤ 2; rw [List.length_take]; omega, len', okE⟩
theorem drawn_t1 {K : PySem.W.Frag} {l : Addr} {k n : Nat} {kd : Int} {v : V} {r : Addr} {H3 H : Hp} {j : Nat} {la : W} {e o : Addr} {os : List W} {D : Ends} {a7 a9 a10 : Option V} (hk2 : 2 ≤ k) (hk3 : k ≤ 3) (x : DSt l k n r H3 H j la e o os) (h1 : kd ≠ 2 → ∀ y ∈ os, y.length ≤ 1) (hD : ∀ σ H, DPv l k n kd v r H3 (j + 1) σ H → D.nx σ H) :
    dT1 K D [some (.ref l), some (.int k), some (.int kd), some v, some (.ref r), some (.str (S la)), some (.ref e), a7, some (.ref o), a9, a10] H := by
  have dl : DL H l := by
    obtain ⟨_, _, h, _⟩ := x.rows
    exact h.dl
  refine ⟨_, rfl, rfl, _, rfl, ifB (fun c => ?_) (fun c => ifF rfl (drawn_t2 hk2 hk3 x hD))⟩
  have c : kd = 3 := V.int.inj (of_decide_eq_true c)
  refine ⟨_, rfl, l, rfl, dl, fun i H4 d4 e4 => .inl ⟨_, rfl, _, _, rfl, rfl, by show (0 : Int) < 2; decide, rfl, _, rfl, ?_⟩⟩
  have x4 := x.step d4
  refine ifB (fun c2 => ?_) (fun c2 => drawn_t2 hk2 hk3 x4 hD)
  have h1 := h1 (by omega)
  obtain ⟨x0, x1, rest, eos⟩ : ∃ x0 x1 rest, os = x0 :: x1 :: rest := by
    have := x.los
    match os, this with
    | x0 :: x1 :: rest, _ => exact ⟨x0, x1, rest, rfl⟩
    | [_], h => simp at h; omega
    | [], h => simp at h; omega
  subst eos
  have l0 := h1 x0 List.mem_cons_self
  have l1 := h1 x1 (List.mem_cons_of_mem _ List.mem_cons_self)
  refine ⟨_, rfl, o, _, 0, .str (S x0), rfl, rfl, .of x4.ho, atI_nat (j := 0) rfl, _, rfl, o, _, 1, .str (S x1), rfl, rfl, .of x4.ho, atI_nat (j := 1) rfl, S x0, S x1, rfl, rfl, line_big (by rw [S_len, S_len]; omega), ?_⟩
  refine ⟨_, rfl, o, _, 0, 0, rfl, rfl, x4.ho, (by show ixN (txL (x0 :: x1 :: rest)).length 0 = some 0; unfold ixN; rw [if_pos (by omega), if_pos (by unfold txL; simp; omega)]; rfl), ?_⟩
  rw [S_app]
  refine drawn_t2 (os := (x0 ++ x1) :: x1 :: rest) hk2 hk3 ?_ hD
  obtain ⟨rws, xs, y1, y2, y3, y4, y5⟩ := x4.rows
  obtain ⟨es, ens, g1, g2, g3, g4⟩ := x4.ents
  have ts : TS H4 (upd H4 o (.lst (txL ((x0 ++ x1) :: x1 :: rest)))) := ts_lst x4.ho
  refine ⟨⟨rws, xs, y1.put x.no x.nlo, by rw [upd_ne x.nro]; exact y2, y3.to ts, y4, y5⟩, x.j3, x.nr, x.nlr, x.hla, x.la2, ⟨es, ens, ts _ _ g1, g2.to ts, g3, g4⟩, upd_same, x.no, x.nlo, x.nro, x.los, fun y hy => ?_⟩
  rcases List.mem_cons.mp hy with rfl | hy
  · exact ⟨let_app (x.hos x0 List.mem_cons_self).1 (x.hos x1 (List.mem_cons_of_mem _ List.mem_cons_self)).1, by rw [List.length_append]; omega⟩
  · exact x.hos y (List.mem_cons_of_mem _ hy)
section
variable {P : Program} {w : World} {K : PySem.W.Frag} {mg : Str → Option Value} {base : Heap}
theorem ok_law_drawn (T : Tx K mg) : FnOk P w K mg base CX0 5 T.f_law_drawn T.d_law_drawn ["_law_draws_here", "_law_k"] (sp_law_drawn) := by
  refine T.F_law_drawn.ok sc_law_drawn (fun vs H Q E h => ?_) (fun cdv A outer s H vs Q E hr h => ?_)
  · obtain ⟨l, k, rfl, _⟩ := h
    rfl
  · obtain ⟨l, k, rfl, dl, hk2, hk3, q⟩ := h
    refine ⟨_, PSs.nox (pss_cons (ps_set (i := 2) sc_law_drawn.nd rfl (by first | exact .inl rfl | exact .inr rfl) (pe_op op_mod (pe_callTy call_int1 rfl T.n_int boot_int (pa_cons (pe_call (ok_law_next T) (hr.mono (by decide)) rfl T.g_law_next T.F_law_next.kp T.b_law_next .nil pass0 (pa_cons (pv 0) pa_nil)) pa_nil)) pe_int)) (pss_cons (ps_set (i := 3) sc_law_drawn.nd rfl (by first | exact .inl rfl | exact .inr rfl) (pe_call (ok_law_machine T) (hr.mono (by decide)) rfl T.g_law_machine T.F_law_machine.kp T.b_law_machine .nil pass0 (pa_cons (pv 0) (pa_cons (pv 1) (pa_cons pe_int pa_nil))))) (pss_cons (ps_if (pt_cmpR op_eq (pv 2) pe_int (nomark _)) (pss_one (ps_ret (pv 3))) pss_nil) (pss_cons (ps_set (i := 4) sc_law_drawn.nd rfl (by first | exact .inl rfl | exact .inr rfl) (pe_lst pa_nil)) (pss_cons (ps_for PassesOwn.never rfl (pi_tup (pe_ix ix_tup (pv 3) pe_int (fun _ _ => rfl))) (pg_tup (n := 2) rfl (pgs_cons (pg_name (i := 5) sc_law_drawn.nd rfl (by first | exact .inl rfl | exact .inr rfl)) (pgs_cons (pg_name (i := 6) sc_law_drawn.nd rfl (by first | exact .inl rfl | exact .inr rfl)) pgs_nil))) (pss_cons (ps_set (i := 7) sc_law_drawn.nd rfl (by first | exact .inl rfl | exact .inr rfl) (pe_op op_mod (pe_callTy call_int1 rfl T.n_int boot_int (pa_cons (pe_call (ok_law_next T) (hr.mono (by decide)) rfl T.g_law_next T.F_law_next.kp T.b_law_next .nil pass0 (pa_cons (pv 0) pa_nil)) pa_nil)) (pv 1))) (pss_cons (ps_set (i := 8) sc_law_drawn.nd rfl (by first | exact .inl rfl | exact .inr rfl) (pe_lc rfl sc_law_drawn.nd (pi_range1 (by rfl) T.n_range (pa_cons (pv 1) pa_nil)) (blkOk_by (own := [("_law_letter", 9)]) (by rfl)) (fun _ _ _ _ _ => (pg_name (i := 9) sc_law_drawn.nd rfl (by first | exact .inl rfl | exact .inr rfl))) (fun _ _ _ _ _ => pts_nil) (fun _ _ _ _ _ => (pe_ix ix_str pe_str (pe_op op_mod (pe_callTy call_int1 rfl T.n_int boot_int (pa_cons (pe_op op_add (pv 9) (pv 7)) pa_nil)) (pv 1)) (fun _ _ => rfl))))) (pss_cons (ps_if (pt_cmpR op_eq (pv 2) pe_int (nomark _)) (pss_one (ps_set (i := 8) sc_law_drawn.nd rfl (by first | exact .inl rfl | exact .inr rfl) (pe_lc rfl sc_law_drawn.nd (pi_list (pv 8)) (blkOk_by (own := [("_law_out_here", 10)]) (by rfl)) (fun _ _ _ _ _ => (pg_name (i := 10) sc_law_drawn.nd rfl (by first | exact .inl rfl | exact .inr rfl))) (fun _ _ _ _ _ => pts_nil) (fun _ _ _ _ _ => (pe_op op_mulS (pv 10) (pe_op op_add pe_int (pe_op op_mod (pe_callTy call_int1 rfl T.n_int boot_int (pa_cons (pe_call (ok_law_next T) (hr.mono (by decide)) rfl T.g_law_next T.F_law_next.kp T.b_law_next .nil pass0 (pa_cons (pv 0) pa_nil)) pa_nil)) pe_int))))))) pss_nil) (pss_cons (ps_if (PW.pt (pw_and (pt_cmpR op_eq (pv 2) pe_int (nomark _)) (pw_and1 (pt_cmpR op_eq (pe_op op_mod (pe_callTy call_int1 rfl T.n_int boot_int (pa_cons (pe_call (ok_law_next T) (hr.mono (by decide)) rfl T.g_law_next T.F_law_next.kp T.b_law_next .nil pass0 (pa_cons (pv 0) pa_nil)) pa_nil)) pe_int) pe_int (nomark _))))) (pss_one (ps_asg (pe_op op_add_str (pe_ix ix_list (pv 8) pe_int (fun _ _ => rfl)) (pe_ix ix_list (pv 8) pe_int (fun _ _ => rfl))) (pg_sub (pv 8) pe_int set_list))) pss_nil) (pss_one (ps_expr (pe_bm PySem.F.plainAttrs_list PySem.F.slot_list_append PySem.F.type_list_append mt_append (pv 4) (pa_cons (pe_tup (pa_cons (pe_slice sl_str (pv 5) po_none (po_some pe_int)) (pa_cons (pe_callTy call_tuple_of rfl T.n_tuple boot_tuple (pa_cons (pe_lc rfl sc_law_drawn.nd (pi_range1 (by rfl) T.n_range (pa_cons (pv 1) pa_nil)) (blkOk_by (own := [("_law_letter", 9)]) (by rfl)) (fun _ _ _ _ _ => (pg_name (i := 9) sc_law_drawn.nd rfl (by first | exact .inl rfl | exact .inr rfl))) (fun _ _ _ _ _ => pts_nil) (fun _ _ _ _ _ => (pe_tup (pa_cons (pe_ix (ix_listK (K := K) rfl) (pv 8) (pv 9) (fun _ _ => rfl)) (pa_cons (pe_ix (ix_tupK (K := K) rfl) (pe_ix (ix_tupK (K := K) rfl) (pv 6) (pv 9) (fun _ _ => rfl)) pe_int (fun _ _ => rfl)) pa_nil))))) pa_nil)) pa_nil))) pa_nil))))))))) (pss_one (ps_ret (pe_tup (pa_cons (pv 1) (pa_cons (pe_ix ix_tup (pv 3) pe_int (fun _ _ => rfl)) (pa_cons (pe_callTy call_tuple_of rfl T.n_tuple boot_tuple (pa_cons (pv 4) pa_nil)) pa_nil))))))))))), ?_⟩
    refine ⟨_, rfl, l, rfl, dl, fun i H1 d1 e1 => .inl ⟨_, rfl, _, _, rfl, rfl, by show (0 : Int) < 4; decide, ?_⟩⟩
    refine ⟨_, rfl, _, rfl, l, k, rfl, d1.dl, hk2, hk3, fun M0 v H2 hv ek d2 dm => ?_⟩
    have d12 := d1.trans d2
    refine ⟨_, rfl, rfl, _, rfl, ifB (fun c => ?_) (fun c => ?_)⟩
    · exact ⟨_, rfl, q M0 v H2 hv ek d12 dm⟩
    refine ⟨Nat.zero_le _, fun r nr => ?_⟩
    have nlr := dl_ne d2.dl nr
    have dr0 := (Dr.refl d2.dl).put (o := .lst []) nr nlr
    have m2 : MAt H2 v M0 := ⟨hv, dm⟩
    obtain ⟨a, tr, rs, rfl, ha, htr, hdr⟩ := mach_inv dm
    have lrs : rs.length = M0.rows.length := by rw [hdr.length, List.length_map]
    have ts0 : TS H2 (upd H2 r (.lst [])) := ts_new nr
    have hn3 := hv.n3
    refine ⟨_, rfl, a, _, 2, _, rfl, rfl, .of (ts0 _ _ ha), rfl, tr, rfl, ⟨rs, .of (ts0 _ _ htr)⟩, for_tup (DPv l k M0.rows.length (i % 4) (.ref a) r H2) ⟨[], [], none, none, none, none, none, none, rfl, dr0, upd_same, .nil, rfl, fun x hx => absurd hx List.not_mem_nil⟩ (fun j σ H' _ ⟨_, _, _, _, _, _, _, _, _, d, _⟩ => .of (d.ts d2.dl _ _ htr)) ?_ ?_⟩
    · rintro j x σ H3 hx ⟨rws, xs, a5, a6, a7, a8, a9, a10, rfl, dr, hr2, hd, hlen, hok⟩
      have hj : j < M0.rows.length := by rw [← lrs]; exact (List.getElem?_eq_some_iff.mp hx).1
      obtain ⟨dd, gd, hdd⟩ := hdr.at hx
      rw [List.getElem?_map] at gd
      obtain ⟨row, gr, rfl⟩ := Option.map_eq_some_iff.mp gd
      obtain ⟨ra, e, es, rfl, hra, he, hes⟩ := row_inv hdd
      obtain ⟨r1, r2, r3, r4⟩ := hv.row row (List.mem_of_getElem? gr)
      have ts3 := dr.ts d2.dl
      refine ⟨ra, _, rfl, .of (ts3 _ _ hra), rfl, _, _, rfl, _, _, rfl, rfl, ?_⟩
      refine ⟨_, rfl, l, rfl, dr.dl, fun i4 H4 d4 e4 => .inl ⟨_, rfl, _, rfl, _, _, rfl, rfl, by omega, ?_⟩⟩
      have d24 := dr.trans d4
      -- outs = [..]
      refine ⟨_, rfl, (k : Int), rfl, by omega, by omega, fun o no => ?_⟩
      have nlo := dl_ne d4.dl no
      have hr4 := d4.keep _ _ nlr.symm hr2
      have nro := ne_of_none hr4 no
      refine lc_range (n := ((k : Int)).toNat) (LcP (fun acc H' => ∃ os : List W, acc = txL os ∧ ∀ y ∈ os, Let k y ∧ y.length ≤ 1) H4 o) (lcp_zero no ⟨[], rfl, fun y hy => absurd hy List.not_mem_nil⟩) ?_ ?_
      · rintro c5 H5 hc5 ⟨acc, sm, hC, hla, os, eacc, hos⟩
        have hm0 : 0 ≤ (0 + (c5 : Int) + i4 % (k : Int)) % (k : Int) := Int.emod_nonneg _ (by omega)
        have hm1 : (0 + (c5 : Int) + i4 % (k : Int)) % (k : Int) < k := Int.emod_lt_of_pos _ (by omega)
        obtain ⟨mz, emz⟩ : ∃ m : Nat, (0 + (c5 : Int) + i4 % (k : Int)) % (k : Int) = m := ⟨((0 + (c5 : Int) + i4 % (k : Int)) % (k : Int)).toNat, by omega⟩
        refine ⟨rfl, yes ⟨_, rfl, _, rfl, _, _, rfl, rfl, .inl ⟨_, rfl, _, rfl, _, _, rfl, rfl, by omega, _, _, 97 + mz, rfl, rfl, line_big (by decide), (by rw [emz]; exact letter_at (by omega)), ?_⟩⟩⟩
        refine lcp_step no sm hC hla (by omega) ⟨os ++ [[97 + mz]], by rw [eacc]; unfold txL; rw [List.map_append]; rfl, fun y hy => ?_⟩
        rcases List.mem_append.mp hy with hy | hy
        · exact hos y hy
        · have e : y = [97 + mz] := by simpa using hy
          subst e
          exact ⟨let_one (by omega), Nat.le_refl _⟩
      · rintro H5 ⟨acc, sm, hC, hla, os, eacc, hos⟩
        subst eacc
        have los : os.length = k := by
          unfold txL at hla
          rw [List.length_map] at hla
          omega
        have d5 := d24.trans (.of_same d24.dl sm)
        have ts5 := d5.ts d2.dl
        have ts35 : TS H3 H5 := (d4.ts dr.dl).trans (same_ts sm)
        have no2 : H2 o = none := by
          cases z : H2 o with
          | none => rfl
          | some u =>
            rw [d24.keep _ _ nlo.symm z] at no
            cases no
        have x5 : DSt l k M0.rows.length r H2 H5 j row.1 e o os := ⟨⟨rws, xs, d5, sm _ _ hr4, hd.to ts35, hlen, hok⟩, by omega, nr, nlr, by rw [← ek]; exact r1, r2, ⟨es, row.2, ts5 _ _ he, hes.to ts5, by rw [← ek]; exact r3, fun y hy => (r4 y hy).2.2⟩, hC, no2, nlo, nro, los, fun y hy => ⟨(hos y hy).1, by have := (hos y hy).2; omega⟩⟩
        have fin : ∀ (a7 a9 a10 : Option L2.V) (o' : Addr) (os' : List W) (H' : Hp), DSt l k M0.rows.length r H2 H' j row.1 e o' os' → (i % 4 ≠ 2 → ∀ y ∈ os', y.length ≤ 1) → dT1 K { nx := DPv l k M0.rows.length (i % 4) (.ref a) r H2 (j + 1), rt := Q, ct := DPv l k M0.rows.length (i % 4) (.ref a) r H2 (j + 1), bk := fun σ H => tRet (tTup (tCons (tVar 1) (tCons (tOp (rIxT K) (tVar 3) (tC (.int 1))) (tCons (tCB (rTo K) (tCons (tVar 4) tNil)) tNil)))) { nx := fun _ H' => Q .non H', rt := Q } σ H } [some (.ref l), some (.int k), some (.int (i % 4)), some (.ref a), some (.ref r), some (.str (S row.1)), some (.ref e), a7, some (.ref o'), a9, a10] H' :=
          fun a7 a9 a10 o' os' H' x h => drawn_t1 hk2 hk3 x h fun σ H z => z
        refine ⟨_, rfl, rfl, _, rfl, ifB (fun c2 => ?_) (fun c2 => ?_)⟩
        · -- kind 2: once or twice
          refine ⟨_, rfl, o, rfl, ⟨_, .of hC⟩, fun o2 no2' => ?_⟩
          have nlo2 := dl_ne d5.dl no2'
          refine lc_it (walk_list (xs := txL os)) (fun c6 H' => ∃ os2 : List W, Dr l H5 H' ∧ H' o2 = some (.lst (txL os2)) ∧ os2.length = c6 ∧ ∀ y ∈ os2, Let k y ∧ y.length ≤ 2) ⟨[], (Dr.refl d5.dl).put no2' nlo2, upd_same, rfl, fun y hy => absurd hy List.not_mem_nil⟩ (fun c6 H' _ ⟨_, d, _⟩ => .of (d.keep _ _ nlo.symm hC)) ?_ ?_
          · rintro c6 y H6 H6' hc6 ⟨os2, d6, ho2, lo2, hos2⟩ ⟨rfl, hy⟩
            unfold txL at hy hc6
            rw [List.length_map] at hc6
            rw [List.getElem?_map] at hy
            obtain ⟨yo, gyo, rfl⟩ := Option.map_eq_some_iff.mp hy
            obtain ⟨w1, w2⟩ := hos yo (List.mem_of_getElem? gyo)
            refine ⟨rfl, yes ⟨_, rfl, _, rfl, l, rfl, d6.dl, fun i7 H7 d7 e7 => .inl ⟨_, rfl, _, _, rfl, rfl, by show (0 : Int) < 2; decide, _, _, rfl, rfl, ?_⟩⟩⟩
            have hm0 : 0 ≤ i7 % 2 := Int.emod_nonneg _ (by decide)
            have hm1 : i7 % 2 < 2 := Int.emod_lt_of_pos _ (by decide)
            obtain ⟨nn, enn, hnn⟩ : ∃ nn : Nat, 1 + i7 % 2 = nn ∧ (nn = 1 ∨ nn = 2) := ⟨(1 + i7 % 2).toNat, by omega, by omega⟩
            have ho27 := d7.keep _ _ nlo2.symm ho2
            refine ⟨yo, nn, rfl, by rw [← enn], by omega, hnn, ?_⟩
            refine ⟨_, ho27, by unfold txL; rw [List.length_map, lo2]; exact line_lt (by omega), os2 ++ [(List.replicate nn yo).flatten], (d6.trans d7).put no2' nlo2, by rw [upd_same]; unfold txL; rw [List.map_append]; rfl, by rw [List.length_append, lo2]; rfl, fun y hy => ?_⟩
            rcases List.mem_append.mp hy with hy | hy
            · exact hos2 y hy
            · have e : y = (List.replicate nn yo).flatten := by simpa using hy
              subst e
              rcases hnn with rfl | rfl
              · simp [List.replicate]
                exact ⟨w1, by omega⟩
              · simp [List.replicate]
                exact ⟨let_app w1 w1, by omega⟩
          · rintro H6 ⟨os2, d6, ho2, lo2, hos2⟩
            have lo2 : os2.length = k := by
              unfold txL at lo2
              rw [List.length_map] at lo2
              omega
            have x6 := x5.step d6
            have no22 : H2 o2 = none := by
              cases z : H2 o2 with
              | none => rfl
              | some u =>
                rw [d5.keep _ _ nlo2.symm z] at no2'
                cases no2'
            have nro2 : r ≠ o2 := ne_of_none (sm _ _ hr4) no2'
            refine fin _ _ _ o2 os2 H6 ⟨x6.rows, x6.j3, x6.nr, x6.nlr, x6.hla, x6.la2, x6.ents, ho2, no22, nlo2, nro2, lo2, hos2⟩ fun h => absurd (V.int.inj (of_decide_eq_true c2)) h
        · exact fin _ _ _ o os H5 x5 fun _ y hy => (hos y hy).2
    · rintro σ H3 ⟨rws, xs, a5, a6, a7, a8, a9, a10, rfl, dr, hr2, hd, hlen, hok⟩
      rw [lrs] at hlen
      have ts3 := dr.ts d2.dl
      refine ⟨_, rfl, _, rfl, a, _, 1, _, rfl, rfl, .of (ts3 _ _ ha), rfl, _, rfl, r, xs, rfl, .inl ⟨.of hr2, fun t nt => ⟨line_big (by show 3 ≤ 16000000; decide), fun t2 nt2 => ?_⟩⟩⟩
      have n12 : t ≠ t2 := fun z => by rw [z] at nt2; rw [upd_same] at nt2; cases nt2
      have tsn : TS H3 (upd (upd H3 t (.tup xs)) t2 (.tup [.int k, .str (S M0.first), .ref t])) := (ts_new nt).trans (ts_new nt2)
      refine q ⟨k, M0.first, rws⟩ _ _ ⟨hk2, hk3, by show 1 ≤ rws.length; have := hv.n1; omega, by show rws.length ≤ 3; omega, by show Let k M0.first; rw [← ek]; exact hv.fstL, hv.fst2, fun y hy => ?_⟩ rfl (((d12.trans dr).new nt).new nt2) (.tup upd_same (.cons (.int _) (.cons (.str _) (.cons (.tup (by rw [upd_ne n12]; exact upd_same) (hd.to tsn)) .nil))))
      have h4 := hok y hy
      rw [← hlen] at h4
      exact h4
end
end K67


/-! K4m: the law's own walking, what is left, moves, order. -/
namespace K67
open PySem PySem.Spec PyProof.Rows L2
theorem zip_fst {α β : Type} (f : α → β) : ∀ (l : List α) (n : Nat), ((l.zipIdx n).map fun p => f p.1) = l.map f
  | [], n => rfl
  | x :: l, n => by
    rw [List.zipIdx_cons, List.map_cons, zip_fst f l (n + 1), List.map_cons]
theorem moves_lm (M : Mach) (s : Nat) : ((moves M s).map fun m => lmD m.2) = lmD (M.last s, -1) :: (M.ents s).map enD := by
  unfold moves
  rw [List.map_cons, List.map_map]
  congr 1
  exact zip_fst enD (M.ents s) 0
theorem in_nv (L : List Nat) (s : Nat) : inV (.int (s : Int)) (L.map nv) = decide (s ∈ L) := by
  unfold inV
  rw [List.any_map, Bool.eq_iff_iff, List.any_eq_true, decide_eq_true_iff]
  constructor
  · rintro ⟨t, ht, e⟩
    have e : ((t : Int) == (s : Int)) = true := e
    have e := eq_of_beq e
    have e : t = s := by omega
    subst e
    exact ht
  · intro hs
    exact ⟨s, hs, show ((s : Int) == (s : Int)) = true from beq_self_eq_true _⟩
theorem flat_nv (L : List Nat) : (L.map nv).all flatV = true := by
  rw [List.all_map, List.all_eq_true]
  intro s _
  rfl
section
variable {P : Program} {w : World} {K : PySem.W.Frag} {mg : Str → Option Value} {base : Heap}
theorem ok_law_walked (T : Tx K mg) : FnOk P w K mg base CX0 1 T.f_law_walked T.d_law_walked ["_law_machine_here", "_law_state", "_law_word"] (sp_law_walked) := by
  refine T.F_law_walked.ok sc_law_walked (fun vs H Q E h => ?_) (fun cdv A outer s H vs Q E hr h => ?_)
  · obtain ⟨v, M, s, x, rfl, _⟩ := h
    rfl
  · obtain ⟨v, M, s0, x, rfl, m, hs, hl, hx, q⟩ := h
    have hv := m.1
    have hk3 := hv.k3
    refine ⟨_, PSs.nox (pss_cons (ps_set (i := 3) sc_law_walked.nd rfl (by first | exact .inl rfl | exact .inr rfl) pe_str) (pss_cons (ps_for PassesOwn.never rfl (pi_str (pv 2)) (pg_name (i := 4) sc_law_walked.nd rfl (by first | exact .inl rfl | exact .inr rfl)) (pss_cons (ps_asg (pe_ix ix_tup (pe_ix ix_tup (pe_ix ix_tup (pe_ix ix_tup (pv 0) pe_int (fun _ _ => rfl)) (pv 1) (fun _ _ => rfl)) pe_int (fun _ _ => rfl)) (pe_bm PySem.F.plainAttrs_str PySem.F.slot_str_index PySem.F.type_str_index mt_sindex pe_str (pa_cons (pv 4) pa_nil)) (fun _ _ => rfl)) (pg_tup (n := 2) rfl (pgs_cons (pg_name (i := 5) sc_law_walked.nd rfl (by first | exact .inl rfl | exact .inr rfl)) (pgs_cons (pg_name (i := 1) sc_law_walked.nd rfl (by first | exact .inl rfl | exact .inr rfl)) pgs_nil)))) (pss_one (ps_set (i := 3) sc_law_walked.nd rfl (by first | exact .inl rfl | exact .inr rfl) (pe_op op_add_str (pv 3) (pv 5)))))) (pss_one (ps_ret (pe_lst (pa_cons (pv 3) (pa_cons (pv 1) pa_nil))))))), ?_⟩
    refine ⟨_, rfl, S x, rfl, for_it walk_str (fun i σ H' => ∃ (o : W) (st : Nat) (a1 a2 : Option L2.V), σ = [some v, some (.int st), some (.str (S x)), some (.str (S o)), a1, a2] ∧ H' = H ∧ walk M s0 (x.take i) = (o, st) ∧ st < M.rows.length)
      ⟨[], s0, none, none, (by rw [S_nil]; rfl), rfl, rfl, hs⟩ (fun _ _ _ _ _ => trivial) ?_ ?_⟩
    · rintro i y σ H1 H1' hi ⟨o, st, a1, a2, rfl, rfl, ew, hst⟩ ⟨rfl, c, hc, rfl⟩
      rw [S_size] at hi
      rw [S_get] at hc
      have hcl := hl c (List.mem_of_getElem? hc)
      obtain ⟨a, r, rs, qa, e, es, en, rfl, ha, hr2, e1, e2, e3, e4, he⟩ := entry_at m hst hcl
      have hol : o.length ≤ 2000 := by
        have := (walk_let hv hs (w := x.take i) fun d hd => hl d (List.mem_of_mem_take hd)).2
        rw [ew, List.length_take] at this
        have this : o.length ≤ 2 * min i x.length := this
        omega
      have hel := (ents_ok hv hst (ent_mem hv hst hcl))
      refine ⟨_, rfl, a, _, 2, _, rfl, rfl, .of ha, rfl, _, rfl, r, rs, st, _, rfl, rfl, .of hr2, atI_nat e1, qa, _, 1, _, rfl, rfl, .of e2, rfl, ?_⟩
      refine ⟨rfl, _, rfl, _, _, _, _, rfl, rfl, occ_letter hk3 hcl, e, es, _, _, rfl, rfl, .of e3, atI_nat e4, ?_⟩
      refine ⟨en, _, rfl, .of he, rfl, _, _, rfl, _, _, rfl, rfl, ?_⟩
      refine ⟨_, rfl, _, rfl, S o, S (M.ent st c).1, rfl, rfl, line_big (by rw [S_len, S_len]; have := hel.2.1; omega), ?_⟩
      exact ⟨o ++ (M.ent st c).1, (M.ent st c).2, _, _, by rw [S_app]; rfl, rfl, walk_step hc ew, hel.2.2⟩
    · rintro σ H1 ⟨o, st, a1, a2, rfl, rfl, ew, hst⟩
      rw [S_size, List.take_length] at ew
      rw [ew] at q
      refine ⟨_, rfl, _, rfl, line_big (by show 2 ≤ 16000000; decide), fun l nl => ?_⟩
      exact q l _ _ (same_new (Same.refl _) nl) nl upd_same (.cons (.str _) (.cons (.int _) .nil))
theorem ok_law_form (T : Tx K mg) : FnOk P w K mg base CX0 2 T.f_law_form T.d_law_form ["_law_machine_here", "_law_word"] (sp_law_form) := by
  refine T.F_law_form.ok sc_law_form (fun vs H Q E h => ?_) (fun cdv A outer s H vs Q E hr h => ?_)
  · obtain ⟨v, M, x, rfl, _⟩ := h
    rfl
  · obtain ⟨v, M, x, rfl, m, hl, hx, q⟩ := h
    have hv := m.1
    refine ⟨_, PSs.nox (pss_cons (ps_asg (pe_call (ok_law_walked T) (hr.mono (by decide)) rfl T.g_law_walked T.F_law_walked.kp T.b_law_walked .nil pass0 (pa_cons (pv 0) (pa_cons pe_int (pa_cons (pv 1) pa_nil)))) (pg_lst rfl (pgs_cons (pg_name (i := 2) sc_law_form.nd rfl (by first | exact .inl rfl | exact .inr rfl)) (pgs_cons (pg_name (i := 3) sc_law_form.nd rfl (by first | exact .inl rfl | exact .inr rfl)) pgs_nil)))) (pss_one (ps_ret (pe_op op_add_str (pe_op op_add_str (pe_ix ix_tup (pv 0) pe_int (fun _ _ => rfl)) (pv 2)) (pe_ix ix_tup (pe_ix ix_tup (pe_ix ix_tup (pv 0) pe_int (fun _ _ => rfl)) (pv 3) (fun _ _ => rfl)) pe_int (fun _ _ => rfl)))))), ?_⟩
    refine ⟨_, rfl, _, rfl, v, M, 0, x, rfl, m, hv.n1, hl, hx, fun t ts H1 sm nt ht dt => ?_⟩
    obtain ⟨u1, u2, rfl, d1, d2⟩ := dt.two_inv
    rw [Dat.str_inv d1, d2.int_inv] at ht
    refine ⟨t, _, rfl, .of ht, rfl, _, _, rfl, _, _, rfl, rfl, ?_⟩
    have hst := walk_lt hv hv.n1 hl
    have hwl := (walk_let hv hv.n1 hl).2
    obtain ⟨a, r, rs, rfl, ha, hr2, lr, row⟩ := mach_at (m.same sm)
    obtain ⟨qa, e, es, e1, e2, e3, e4⟩ := row _ hst
    have f2 := hv.fst2
    have l2 := (last_ok hv hst).2
    refine ⟨_, rfl, a, _, 1, _, rfl, rfl, .of ha, rfl, _, rfl, S M.first, S (walk M 0 x).1, rfl, rfl, line_big (by rw [S_len, S_len]; omega), ?_⟩
    refine ⟨_, rfl, a, _, 2, _, rfl, rfl, .of ha, rfl, _, rfl, r, rs, _, _, rfl, rfl, .of hr2, atI_nat e1, qa, _, 0, _, rfl, rfl, .of e2, rfl, _, _, rfl, rfl, line_big (by rw [S_app, S_len, S_len, List.length_append]; omega), ?_⟩
    have e9 : S M.first ++ S (walk M 0 x).1 ++ S (M.last (walk M 0 x).2) = S (form M x) := by
      rw [S_app, S_app, List.append_assoc]
      rfl
    rw [e9]
    exact q _ sm
theorem ok_law_rest (T : Tx K mg) : FnOk P w K mg base CX0 1 T.f_law_rest T.d_law_rest ["_law_one", "_law_other"] (sp_law_rest) := by
  refine T.F_law_rest.ok sc_law_rest (fun vs H Q E h => ?_) (fun cdv A outer s H vs Q E hr h => ?_)
  · obtain ⟨x, y, rfl, _⟩ := h
    rfl
  · obtain ⟨x, y, rfl, hx, hy, q⟩ := h
    refine ⟨_, PSs.nox (pss_cons (ps_set (i := 2) sc_law_rest.nd rfl (by first | exact .inl rfl | exact .inr rfl) pe_int) (pss_cons (ps_for PassesOwn.never rfl (pi_range1 (by rfl) T.n_range (pa_cons (pe_callB (call_min2 rfl) rfl T.n_min boot_min (pa_cons (pe_callB call_len rfl T.n_len boot_len (pa_cons (pv 0) pa_nil)) (pa_cons (pe_callB call_len rfl T.n_len boot_len (pa_cons (pv 1) pa_nil)) pa_nil))) pa_nil)) (pg_name (i := 3) sc_law_rest.nd rfl (by first | exact .inl rfl | exact .inr rfl)) (pss_one (ps_if (PW.pt (pw_and (pt_cmpR op_eq (pv 2) (pv 3) (nomark _)) (pw_and1 (pt_cmpR op_eq (pe_ix ix_str (pv 0) (pv 3) (fun _ _ => rfl)) (pe_ix ix_str (pv 1) (pv 3) (fun _ _ => rfl)) (nomark _))))) (pss_one (ps_set (i := 2) sc_law_rest.nd rfl (by first | exact .inl rfl | exact .inr rfl) (pe_op op_add (pv 3) pe_int))) pss_nil))) (pss_cons (ps_if (pt_cmpR op_lt (pv 2) (pe_callB (call_min2 rfl) rfl T.n_min boot_min (pa_cons (pe_callB call_len rfl T.n_len boot_len (pa_cons (pv 0) pa_nil)) (pa_cons (pe_callB call_len rfl T.n_len boot_len (pa_cons (pv 1) pa_nil)) pa_nil))) (nomark _)) (pss_one (ps_ret pe_non)) pss_nil) (pss_one (ps_ret (pe_tup (pa_cons (pe_slice sl_str (pv 0) (po_some (pv 2)) po_none) (pa_cons (pe_slice sl_str (pv 1) (po_some (pv 2)) po_none) pa_nil)))))))), ?_⟩
    have hmn : (if (y.length : Int) < x.length then (y.length : Int) else x.length) = ((min x.length y.length : Nat) : Int) := by
      rw [Nat.min_def]
      split <;> split <;> omega
    refine ⟨_, rfl, _, x.length, rfl, ⟨line_big (by rw [S_len]; omega), by rw [S_len]⟩, _, rfl, _, y.length, rfl, ⟨line_big (by rw [S_len]; omega), by rw [S_len]⟩, _, _, rfl, _, rfl, by split <;> omega, by split <;> omega, ?_⟩
    rw [hmn]
    refine for_range (n := (((min x.length y.length : Nat)) : Int).toNat) (fun i σ H' => ∃ (z : Nat) (a3 : Option L2.V), σ = [some (.str (S x)), some (.str (S y)), some (.int z), a3] ∧ H' = H ∧ z ≤ i ∧ i ≤ min x.length y.length ∧ (∀ j, j < z → x[j]? = y[j]?) ∧ (z < i → x[z]? ≠ y[z]?))
      ⟨0, none, rfl, rfl, Nat.le_refl _, Nat.zero_le _, fun j hj => absurd hj (Nat.not_lt_zero _), fun h => absurd h (Nat.lt_irrefl _)⟩ ?_ ?_
    · rintro i σ H1 hi ⟨z, a3, rfl, rfl, hz, hi2, he, hn⟩
      have hi : i < min x.length y.length := by omega
      have l1 : i < x.length := by omega
      have l2 : i < y.length := by omega
      have e0 : (0 : Int) + (i : Nat) = (i : Nat) := Int.zero_add _
      rw [e0]
      refine ⟨_, rfl, _, rfl, rfl, _, rfl, ifB (fun c => ?_) (fun c => ?_)⟩
      · have c : z = i := by
          have := V.int.inj (of_decide_eq_true c)
          omega
        subst c
        refine ⟨_, rfl, _, rfl, S x, z, _, rfl, rfl, line_big (by rw [S_len]; omega), by rw [S_cps]; exact atI_nat (List.getElem?_eq_getElem l1), _, rfl, _, rfl, S y, z, _, rfl, rfl, line_big (by rw [S_len]; omega), by rw [S_cps]; exact atI_nat (List.getElem?_eq_getElem l2), rfl, _, rfl, ?_⟩
        refine ifB (fun d => ?_) (fun d => ?_)
        · have d : x[z] = y[z] := by simpa using V.str.inj (of_decide_eq_true d)
          refine ⟨_, rfl, _, _, rfl, rfl, z + 1, _, rfl, rfl, Nat.le_refl _, by omega, fun j hj => ?_, fun h => absurd h (Nat.lt_irrefl _)⟩
          rcases Nat.lt_succ_iff_lt_or_eq.mp hj with hj | rfl
          · exact he j hj
          · rw [List.getElem?_eq_getElem l1, List.getElem?_eq_getElem l2, d]
        · refine ⟨z, _, rfl, rfl, Nat.le_succ _, by omega, he, fun _ => ?_⟩
          rw [List.getElem?_eq_getElem l1, List.getElem?_eq_getElem l2]
          intro zz
          have zz := Option.some.inj zz
          exact absurd (of_decide_eq_false d) (by rw [zz]; simp)
      · have c : z ≠ i := fun e => by
          rw [e] at c
          simp at c
        exact ⟨z, _, rfl, rfl, by omega, by omega, he, fun _ => hn (by omega)⟩
    · rintro σ H1 ⟨z, a3, rfl, rfl, hz, hi2, he, hn⟩
      have hz2 : z ≤ x.length ∧ z ≤ y.length := by omega
      have hcz : (com x y).length = z := com_at hz2 he fun h1 h2 => hn (by omega)
      have rc := rest_com x y
      rw [hcz] at rc
      refine ⟨_, rfl, _, rfl, _, x.length, rfl, ⟨line_big (by rw [S_len]; omega), by rw [S_len]⟩, _, rfl, _, y.length, rfl, ⟨line_big (by rw [S_len]; omega), by rw [S_len]⟩, _, _, rfl, _, _, rfl, rfl, _, rfl, ?_⟩
      refine ifB (fun c => ?_) (fun c => ?_)
      · have c := of_decide_eq_true c
        rw [if_pos (by split at c <;> omega)] at rc
        rw [rc] at q
        exact q _ _ (Same.refl _) .non
      · have c := of_decide_eq_false c
        rw [if_neg (by split at c <;> omega)] at rc
        rw [rc] at q
        refine ⟨_, rfl, _, rfl, _, rfl, _, rfl, line_big (by rw [S_len]; omega), _, rfl, _, rfl, _, rfl, _, rfl, line_big (by rw [S_len]; omega), ?_⟩
        refine ⟨line_big (by show 2 ≤ 16000000; decide), fun p hp => ?_⟩
        rw [cut_drop, cut_drop]
        exact q _ _ (same_new (Same.refl _) hp) (.tup upd_same (.cons (.str _) (.cons (.str _) .nil)))
theorem ok_law_moves (T : Tx K mg) : FnOk P w K mg base CX0 1 T.f_law_moves T.d_law_moves ["_law_machine_here", "_law_state"] (sp_law_moves) := by
  refine T.F_law_moves.ok sc_law_moves (fun vs H Q E h => ?_) (fun cdv A outer s H vs Q E hr h => ?_)
  · obtain ⟨v, M, s, rfl, _⟩ := h
    rfl
  · obtain ⟨v, M, s0, rfl, m, hs, q⟩ := h
    have hv := m.1
    have hk3 := hv.k3
    refine ⟨_, PSs.nox (pss_cons (ps_asg (pe_ix ix_tup (pe_ix ix_tup (pv 0) pe_int (fun _ _ => rfl)) (pv 1) (fun _ _ => rfl)) (pg_tup (n := 2) rfl (pgs_cons (pg_name (i := 2) sc_law_moves.nd rfl (by first | exact .inl rfl | exact .inr rfl)) (pgs_cons (pg_name (i := 3) sc_law_moves.nd rfl (by first | exact .inl rfl | exact .inr rfl)) pgs_nil)))) (pss_one (ps_ret (pe_op op_cat (pe_lst (pa_cons (pe_tup (pa_cons (pv 2) (pa_cons (pe_un un_neg pe_int) pa_nil))) pa_nil)) (pe_callTy call_list_of rfl T.n_list boot_list (pa_cons (pv 3) pa_nil)))))), ?_⟩
    obtain ⟨a, r, rs, rfl, ha, hr2, lr, row⟩ := mach_at m
    obtain ⟨qa, e, es, e1, e2, e3, e4⟩ := row s0 hs
    have le : es.length = M.k := by rw [e4.length, List.length_map, ents_len hv hs]
    refine ⟨_, rfl, a, _, 2, _, rfl, rfl, .of ha, rfl, _, rfl, r, rs, s0, _, rfl, rfl, .of hr2, atI_nat e1, qa, _, rfl, .of e2, rfl, _, _, rfl, _, _, rfl, rfl, ?_⟩
    refine ⟨_, rfl, 1, rfl, line_big (by show 2 ≤ 16000000; decide), fun t nt => ⟨line_big (by show 1 ≤ 16000000; decide), fun l1 nl1 => ?_⟩⟩
    have s1 := same_new (o := .tup [.str (S (M.last s0)), .int (-1)]) (Same.refl H) nt
    have s2 := same_new (o := .lst [.ref t]) s1 nl1
    refine ⟨_, rfl, e, es, rfl, .inr (.of (s2 _ _ e3)), fun l2 nl2 => ?_⟩
    have s3 := same_new (o := .lst es) s2 nl2
    have n12 : l1 ≠ l2 := ne_of_none upd_same nl2
    refine ⟨l1, l2, [.ref t], es, rfl, rfl, by rw [upd_ne n12]; exact upd_same, upd_same, by rw [le]; exact line_big (by show 1 + _ ≤ _; omega), fun p np => ?_⟩
    have s4 := same_new (o := .lst ([.ref t] ++ es)) s3 np
    refine q p _ _ s4 (s3.free np) upd_same ?_
    rw [moves_lm]
    refine .cons (.tup ?_ (.cons (.str _) (.cons (.int _) .nil))) (e4.same s4)
    have nt1 : t ≠ l1 := ne_of_none upd_same nl1
    exact (same_new (o := .lst ([.ref t] ++ es)) (same_new (o := .lst es) (Same.refl _) nl2) np) _ _ (by rw [upd_ne nt1]; exact upd_same)
end
end K67


/-! K4n: the law's order, starts, following, words, closed lists, met places. -/
namespace K67
open PySem PySem.Spec PyProof.Rows L2
theorem ring_len (k : Nat) : ∀ n, (ringW k n).length = k ^ n
  | 0 => rfl
  | n + 1 => by
    show ((ringW k n).flatMap fun x => (List.range k).map fun j => x ++ [97 + j]).length = _
    rw [List.length_flatMap]
    simp only [List.length_map, List.length_range]
    rw [List.map_const', List.sum_replicate_nat, ring_len k n, Nat.pow_succ]
theorem ring_word (k : Nat) : ∀ (n : Nat) (x : W), x ∈ ringW k n → x.length = n
  | 0, x, h => by
    have e : x = [] := by simpa [ringW] using h
    rw [e]
    rfl
  | n + 1, x, h => by
    obtain ⟨y, hy, hx⟩ := List.mem_flatMap.mp h
    obtain ⟨j, _, rfl⟩ := List.mem_map.mp hx
    rw [List.length_append, ring_word k n y hy]
    rfl
theorem pow_le {k n : Nat} (hk : k ≤ 3) (hn : n ≤ 4) : k ^ n ≤ 81 := by
  have h1 : k ^ n ≤ 3 ^ n := Nat.pow_le_pow_left hk n
  have h2 : 3 ^ n ≤ 3 ^ 4 := Nat.pow_le_pow_right (by decide) hn
  have h3 : 3 ^ 4 = 81 := by decide
  omega
theorem words_len {k : Nat} (hk : k ≤ 3) : ∀ n, n ≤ 4 → (wordsW k n).length ≤ 100 * (n + 1)
  | 0, _ => by simp [wordsW]
  | n + 1, h => by
    have h1 := words_len hk n (by omega)
    have h2 := pow_le hk h
    show (wordsW k n ++ ringW k (n + 1)).length ≤ _
    rw [List.length_append, ring_len]
    omega
theorem dats_txL {H : Hp} (L : List W) : Dats H (txL L) (L.map sD) := by
  induction L with
  | nil => exact .nil
  | cons x L ih => exact .cons (.str _) ih
theorem goF_pl (p : Pl) (m : Move) : (goF p m).map (fun g => g.2.2) = (rest (p.x ++ m.2.1) p.y).map fun r => (⟨m.2.2, p.t, r.1, r.2⟩ : Pl) := by
  unfold goF
  rw [Option.map_map]
  rfl
theorem goS_pl (p : Pl) (m : Move) : (goS p m).map (fun g => g.2.2) = (rest p.x (p.y ++ m.2.1)).map fun r => (⟨p.s, m.2.2, r.1, r.2⟩ : Pl) := by
  unfold goS
  rw [Option.map_map]
  rfl
theorem dats_list {K : PySem.W.Frag} {H : Hp} {l : Addr} {xs : List V} {ds : List PyData} (h : H l = some (.lst xs)) (d : Dats H xs ds) : Dp K H (.ref l) (.list ds) := .lst (.of h) (d.dp (K := K))
section
variable {P : Program} {w : World} {K : PySem.W.Frag} {mg : Str → Option Value} {base : Heap}
theorem ok_law_order (T : Tx K mg) : FnOk P w K mg base CX0 1 T.f_law_order T.d_law_order ["_law_rows"] (sp_law_order) := by
  refine T.F_law_order.ok sc_law_order (fun vs H Q E h => ?_) (fun cdv A outer s H vs Q E hr h => ?_)
  · obtain ⟨v, M, rfl, _⟩ := h
    rfl
  · obtain ⟨v, M, rfl, hv, dv, q⟩ := h
    have hn3 := hv.n3
    refine ⟨_, PSs.nox (pss_cons (ps_set (i := 1) sc_law_order.nd rfl (by first | exact .inl rfl | exact .inr rfl) (pe_lst (pa_cons pe_int pa_nil))) (pss_cons (ps_for PassesOwn.never rfl (pi_range1 (by rfl) T.n_range (pa_cons (pe_callB call_len rfl T.n_len boot_len (pa_cons (pv 0) pa_nil)) pa_nil)) (pg_name (i := 2) sc_law_order.nd rfl (by first | exact .inl rfl | exact .inr rfl)) (pss_one (ps_if (pt_cmpR op_lt (pv 2) (pe_callB call_len rfl T.n_len boot_len (pa_cons (pv 1) pa_nil)) (nomark _)) (pss_one (ps_for PassesOwn.never rfl (pi_tup (pe_ix ix_tup (pe_ix ix_tup (pv 0) (pe_ix ix_list (pv 1) (pv 2) (fun _ _ => rfl)) (fun _ _ => rfl)) pe_int (fun _ _ => rfl))) (pg_tup (n := 2) rfl (pgs_cons (pg_name (i := 3) sc_law_order.nd rfl (by first | exact .inl rfl | exact .inr rfl)) (pgs_cons (pg_name (i := 4) sc_law_order.nd rfl (by first | exact .inl rfl | exact .inr rfl)) pgs_nil))) (pss_one (ps_if (pt_cmpR op_notIn_seq (pv 4) (pv 1) rfl) (pss_one (ps_expr (pe_bm PySem.F.plainAttrs_list PySem.F.slot_list_append PySem.F.type_list_append mt_append (pv 1) (pa_cons (pv 4) pa_nil)))) pss_nil)))) pss_nil))) (pss_one (ps_ret (pv 1))))), ?_⟩
    obtain ⟨tr, rs, rfl, htr, hdr⟩ := dv.tup_inv
    have lrs : rs.length = M.rows.length := by rw [hdr.length, List.length_map]
    refine ⟨line_big (by show 1 ≤ 16000000; decide), fun l nl => ?_⟩
    have s1 := same_new (o := .lst [.int 0]) (Same.refl H) nl
    refine ⟨_, rfl, _, M.rows.length, rfl, .inr ⟨rs, .of (s1 _ _ htr), lrs.symm⟩, _, rfl, by omega, by omega, ?_⟩
    refine for_range (n := ((M.rows.length : Nat) : Int).toNat) (fun i σ H' => ∃ (L : List Nat) (a2 a3 a4 : Option L2.V), σ = [some (.ref tr), some (.ref l), a2, a3, a4] ∧ Same H H' ∧ H' l = some (.lst (L.map nv)) ∧ L.Nodup ∧ ∀ s ∈ L, Reach M s)
      ⟨[0], none, none, none, rfl, s1, upd_same, by simp, fun s hs => by
        have e : s = 0 := by simpa using hs
        rw [e]
        exact .zero⟩ ?_ ?_
    · rintro i σ H1 hi ⟨L, a2, a3, a4, rfl, sm, hL, nd, hre⟩
      have e0 : (0 : Int) + (i : Nat) = (i : Nat) := Int.zero_add _
      rw [e0]
      refine ⟨_, rfl, _, rfl, _, L.length, rfl, .inl ⟨_, .of hL, by rw [List.length_map]⟩, _, _, rfl, rfl, _, rfl, ifB (fun c => ?_) (fun c => ?_)⟩
      · have c := of_decide_eq_true c
        have hlt : i < L.length := by omega
        have gst : L[i]? = some L[i] := List.getElem?_eq_getElem hlt
        generalize L[i] = st at gst
        have hst := reach_lt hv (hre st (List.mem_of_getElem? gst))
        obtain ⟨qa, e, es, e1, e2, e3, e4⟩ := row_at (hdr.same sm) hst
        refine ⟨_, rfl, _, rfl, _, rfl, l, L.map nv, i, nv st, rfl, rfl, .of hL, atI_nat (by rw [List.getElem?_map, gst]; rfl), tr, rs, st, _, rfl, rfl, .of (sm _ _ htr), atI_nat e1, qa, _, 1, _, rfl, rfl, .of e2, rfl, e, rfl, ⟨es, .of e3⟩, ?_⟩
        have les : es.length = (M.ents st).length := by rw [e4.length, List.length_map]
        refine for_tup (fun i' σ H' => ∃ (R : List Nat) (a3 a4 : Option L2.V), σ = [some (.ref tr), some (.ref l), some (.int (i : Nat)), a3, a4] ∧ Kp l H1 H' ∧ H' l = some (.lst ((L ++ R).map nv)) ∧ (L ++ R).Nodup ∧ ∀ s ∈ L ++ R, Reach M s)
          ⟨[], a3, a4, rfl, Kp.refl _ _, by rw [List.append_nil]; exact hL, by rw [List.append_nil]; exact nd, by rw [List.append_nil]; exact hre⟩ (fun i' σ H' _ ⟨_, _, _, _, kp, _⟩ => .of (kp.ts hL _ _ e3)) ?_ ?_
        · rintro i' x σ H2 hx ⟨R, b3, b4, rfl, kp, hL2, nd2, hre2⟩
          have hil : i' < (M.ents st).length := by rw [← les]; exact (List.getElem?_eq_some_iff.mp hx).1
          have gen : (M.ents st)[i']? = some (M.ents st)[i'] := List.getElem?_eq_getElem hil
          generalize (M.ents st)[i'] = en at gen
          obtain ⟨q', ge, he⟩ := en_at e4 gen
          rw [hx] at ge
          cases ge
          have hlen := states_len hv nd2 hre2
          refine ⟨q', _, rfl, .of (kp.ts hL _ _ he), rfl, _, _, rfl, _, _, rfl, rfl, ?_⟩
          refine ⟨_, rfl, _, rfl, l, _, rfl, .inl (.of hL2), rfl, flat_nv _, _, rfl, ?_⟩
          show if (!inV (.int (en.2 : Int)) ((L ++ R).map nv)) = true then _ else _
          rw [in_nv]
          by_cases hm : en.2 ∈ L ++ R
          · exact ifF (by rw [decide_eq_true hm]; rfl) ⟨R, _, _, rfl, kp, hL2, nd2, hre2⟩
          · refine ifT (by rw [decide_eq_false hm]; rfl) ?_
            refine ⟨.ref l, rfl, .inl ⟨rfl, _, .of hL2⟩, _, rfl, l, _, _, rfl, rfl, hL2, by rw [List.length_map]; exact line_lt (by omega), ?_⟩
            refine ⟨R ++ [en.2], _, _, rfl, kp.put, by rw [upd_same, ← List.append_assoc, List.map_append (l₂ := [en.2])]; rfl, ?_, fun s hs => ?_⟩
            · rw [← List.append_assoc, List.nodup_append]
              refine ⟨nd2, by simp, fun a ha b hb => ?_⟩
              have e : b = en.2 := by simpa using hb
              subst e
              rintro rfl
              exact hm ha
            · rw [← List.append_assoc] at hs
              rcases List.mem_append.mp hs with hs | hs
              · exact hre2 s hs
              · have e : s = en.2 := by simpa using hs
                rw [e]
                exact .step (hre st (List.mem_of_getElem? gst)) (List.mem_of_getElem? gen)
        · rintro σ H2 ⟨R, b3, b4, rfl, kp, hL2, nd2, hre2⟩
          exact ⟨L ++ R, _, _, _, rfl, Kp.to_same sm nl kp, hL2, nd2, hre2⟩
      · exact ⟨L, _, _, _, rfl, sm, hL, nd, hre⟩
    · rintro σ H1 ⟨L, a2, a3, a4, rfl, sm, hL, nd, hre⟩
      exact ⟨_, rfl, q L hre nd l _ H1 sm nl hL (dats_nv _ _)⟩
theorem ok_law_starts (T : Tx K mg) : FnOk P w K mg base CX0 2 T.f_law_starts T.d_law_starts ["_law_machine_here"] (sp_law_starts) := by
  refine T.F_law_starts.ok sc_law_starts (fun vs H Q E h => ?_) (fun cdv A outer s H vs Q E hr h => ?_)
  · obtain ⟨v, M, rfl, _⟩ := h
    rfl
  · obtain ⟨v, M, rfl, m, q⟩ := h
    have hv := m.1
    have hn3 := hv.n3
    have hk3 := hv.k3
    refine ⟨_, PSs.nox (pss_cons (ps_set (i := 1) sc_law_starts.nd rfl (by first | exact .inl rfl | exact .inr rfl) (pe_lst pa_nil)) (pss_cons (ps_for PassesOwn.never rfl (pi_list (pe_call (ok_law_order T) (hr.mono (by decide)) rfl T.g_law_order T.F_law_order.kp T.b_law_order .nil pass0 (pa_cons (pe_ix ix_tup (pv 0) pe_int (fun _ _ => rfl)) pa_nil))) (pg_name (i := 2) sc_law_starts.nd rfl (by first | exact .inl rfl | exact .inr rfl)) (pss_cons (ps_set (i := 3) sc_law_starts.nd rfl (by first | exact .inl rfl | exact .inr rfl) (pe_call (ok_law_moves T) (hr.mono (by decide)) rfl T.g_law_moves T.F_law_moves.kp T.b_law_moves .nil pass0 (pa_cons (pv 0) (pa_cons (pv 2) pa_nil)))) (pss_one (ps_for PassesOwn.never rfl (pi_range1 (by rfl) T.n_range (pa_cons (pe_callB call_len rfl T.n_len boot_len (pa_cons (pv 3) pa_nil)) pa_nil)) (pg_name (i := 4) sc_law_starts.nd rfl (by first | exact .inl rfl | exact .inr rfl)) (pss_one (ps_for PassesOwn.never rfl (pi_range2 (by rfl) T.n_range (pa_cons (pe_op op_add (pv 4) pe_int) (pa_cons (pe_callB call_len rfl T.n_len boot_len (pa_cons (pv 3) pa_nil)) pa_nil))) (pg_name (i := 5) sc_law_starts.nd rfl (by first | exact .inl rfl | exact .inr rfl)) (pss_cons (ps_set (i := 6) sc_law_starts.nd rfl (by first | exact .inl rfl | exact .inr rfl) (pe_call (ok_law_rest T) (hr.mono (by decide)) rfl T.g_law_rest T.F_law_rest.kp T.b_law_rest .nil pass0 (pa_cons (pe_ix ix_tup (pe_ix ix_list (pv 3) (pv 4) (fun _ _ => rfl)) pe_int (fun _ _ => rfl)) (pa_cons (pe_ix ix_tup (pe_ix ix_list (pv 3) (pv 5) (fun _ _ => rfl)) pe_int (fun _ _ => rfl)) pa_nil)))) (pss_cons (ps_set (i := 7) sc_law_starts.nd rfl (by first | exact .inl rfl | exact .inr rfl) (pe_tup (pa_cons (pe_ix ix_tup (pe_ix ix_list (pv 3) (pv 4) (fun _ _ => rfl)) pe_int (fun _ _ => rfl)) (pa_cons (pe_ix ix_tup (pe_ix ix_list (pv 3) (pv 5) (fun _ _ => rfl)) pe_int (fun _ _ => rfl)) (pa_cons (pv 6) pa_nil))))) (pss_one (ps_if (PW.pt (pw_and (pt_cmpR op_notN (pv 6) pe_non (nomark _)) (pw_and1 (pt_cmpR (op_notInD (room65 hr)) (pv 7) (pv 1) rfl)))) (pss_one (ps_expr (pe_bm PySem.F.plainAttrs_list PySem.F.slot_list_append PySem.F.type_list_append mt_append (pv 1) (pa_cons (pv 7) pa_nil)))) pss_nil)))))))))) (pss_one (ps_ret (pv 1))))), ?_⟩
    refine ⟨Nat.zero_le _, fun l nl => ?_⟩
    have s1 := same_new (o := .lst []) (Same.refl H) nl
    obtain ⟨a, tr, rs, rfl, ha, htr, hdr⟩ := mach_inv (m.same s1).2
    refine ⟨_, rfl, a, _, 2, _, rfl, rfl, .of ha, rfl, .ref tr, M, rfl, hv, .tup htr hdr, fun Ls hre nds lr ss H2 s2 nlr hlr hds => ⟨lr, rfl, ⟨_, .of hlr⟩, ?_⟩⟩
    have hl2 : H2 l = some (.lst []) := s2 _ _ upd_same
    have nlrl : lr ≠ l := fun e => by rw [e, upd_same] at nlr; cases nlr
    have lss : ss.length = Ls.length := by rw [hds.length, List.length_map]
    have okL : ∀ (L : List Pl), (∀ p ∈ L, ∃ st l1 l2, Reach M st ∧ IsStart M st l1 l2 p) → ∀ p ∈ L, PlOk M p := fun L h p hp => by
      obtain ⟨st, l1, l2, h1, h2⟩ := h p hp
      exact start_ok hv (reach_lt hv h1) h2
    refine for_list (fun i σ H' => ∃ (L : List Pl) (xs : List L2.V) (a2 a3 a4 a5 a6 a7 : Option L2.V), σ = [some (.ref a), some (.ref l), a2, a3, a4, a5, a6, a7] ∧ Kp l H2 H' ∧ H' l = some (.lst xs) ∧ Dats H' xs (L.map plD) ∧ L.Nodup ∧ ∀ p ∈ L, ∃ st l1 l2, Reach M st ∧ IsStart M st l1 l2 p)
      ⟨[], [], none, none, none, none, none, none, rfl, Kp.refl _ _, hl2, .nil, List.nodup_nil, fun p hp => absurd hp List.not_mem_nil⟩ (fun i σ H' _ ⟨_, _, _, _, _, _, _, _, _, kp, _⟩ => .of (kp _ _ nlrl hlr)) ?_ ?_
    · rintro i x σ H3 hx ⟨L, xs, a2, a3, a4, a5, a6, a7, rfl, kp, hl, hd, nd, hso⟩
      obtain ⟨dd, gd, hdd⟩ := hds.at hx
      rw [List.getElem?_map] at gd
      obtain ⟨st, gst, rfl⟩ := Option.map_eq_some_iff.mp gd
      have ex := hdd.int_inv
      subst ex
      have hrs := hre st (List.mem_of_getElem? gst)
      have hst := reach_lt hv hrs
      have sm : Same H H3 := Kp.to_same (s1.trans s2) nl kp
      refine ⟨_, rfl, _, rfl, .ref a, M, st, rfl, m.same sm, hst, fun lw ws H4 s4 nlw hlw hdw => ?_⟩
      have hml := moves_len hv hst
      have lws : ws.length = (moves M st).length := by rw [hdw.length, List.length_map]
      have hl4 := s4 _ _ hl
      have nlwl : lw ≠ l := fun e => by rw [e, hl] at nlw; cases nlw
      have mvAt : ∀ (j : Nat) (mm : Move), (moves M st)[j]? = some mm → ∃ ma : Addr, ws[j]? = some (L2.V.ref ma) ∧ H4 ma = some (.tup [.str (S mm.2.1), .int mm.2.2]) := fun j mm h => by
        obtain ⟨u, gu, du⟩ := hdw.get (i := j) (d := lmD mm.2) (by rw [List.getElem?_map, h]; rfl)
        obtain ⟨ma, rfl, hma⟩ := lm_inv du
        exact ⟨ma, gu, hma⟩
      refine ⟨_, rfl, _, ws.length, rfl, .inl ⟨ws, .of hlw, rfl⟩, _, rfl, by omega, by omega, ?_⟩
      refine for_range (n := ((ws.length : Nat) : Int).toNat) (fun j σ H' => ∃ (L' : List Pl) (xs' : List L2.V) (a4 a5 a6 a7 : Option L2.V), σ = [some (.ref a), some (.ref l), some (.int st), some (.ref lw), a4, a5, a6, a7] ∧ Kp l H4 H' ∧ H' l = some (.lst xs') ∧ Dats H' xs' (L'.map plD) ∧ L'.Nodup ∧ ∀ p ∈ L', ∃ st l1 l2, Reach M st ∧ IsStart M st l1 l2 p)
        ⟨L, xs, _, _, _, _, rfl, Kp.refl _ _, hl4, hd.same s4, nd, hso⟩ ?_ ?_
      · rintro j σ H5 hj ⟨L1, xs1, a4, a5, a6, a7, rfl, kp5, hl5, hd5, nd5, hso5⟩
        have hj4 : j < (moves M st).length := by omega
        have gmA : (moves M st)[j]? = some (moves M st)[j] := List.getElem?_eq_getElem hj4
        generalize (moves M st)[j] = mA at gmA
        obtain ⟨ma, gma, hma⟩ := mvAt j mA gmA
        have moA := mv_ok hv hst (List.mem_of_getElem? gmA)
        have e0 : (0 : Int) + (j : Nat) = (j : Nat) := Int.zero_add _
        rw [e0]
        refine ⟨_, rfl, _, _, rfl, rfl, _, rfl, _, ws.length, rfl, .inl ⟨ws, .of (kp5 _ _ nlwl hlw), rfl⟩, _, _, rfl, by omega, ?_⟩
        refine for_range (n := (((ws.length : Nat) : Int) - ((j : Nat) + 1)).toNat) (fun k σ H' => ∃ (L' : List Pl) (xs' : List L2.V) (a5 a6 a7 : Option L2.V), σ = [some (.ref a), some (.ref l), some (.int st), some (.ref lw), some (.int (j : Nat)), a5, a6, a7] ∧ Kp l H4 H' ∧ H' l = some (.lst xs') ∧ Dats H' xs' (L'.map plD) ∧ L'.Nodup ∧ ∀ p ∈ L', ∃ st l1 l2, Reach M st ∧ IsStart M st l1 l2 p)
          ⟨L1, xs1, _, _, _, rfl, kp5, hl5, hd5, nd5, hso5⟩ ?_ ?_
        · rintro k σ H6 hk ⟨L2', xs2, a5, a6, a7, rfl, kp6, hl6, hd6, nd6, hso6⟩
          have hk4 : j + 1 + k < (moves M st).length := by omega
          have gmB : (moves M st)[j + 1 + k]? = some (moves M st)[j + 1 + k] := List.getElem?_eq_getElem hk4
          generalize (moves M st)[j + 1 + k] = mB at gmB
          obtain ⟨mb, gmb, hmb⟩ := mvAt (j + 1 + k) mB gmB
          have moB := mv_ok hv hst (List.mem_of_getElem? gmB)
          have e1 : ((j : Nat) : Int) + 1 + (k : Nat) = ((j + 1 + k : Nat) : Int) := by omega
          rw [e1]
          have hw6 : H6 lw = some (.lst ws) := kp6 _ _ nlwl hlw
          have ma6 : H6 ma = _ := kp6 _ _ (ne_of hma hl4 fun z => nomatch z) hma
          have mb6 : H6 mb = _ := kp6 _ _ (ne_of hmb hl4 fun z => nomatch z) hmb
          have := moA.n2
          have := moB.n2
          refine ⟨_, rfl, _, rfl, lw, ws, j, _, rfl, rfl, .of hw6, atI_nat gma, ma, _, 0, _, rfl, rfl, .of ma6, rfl, _, rfl, _, rfl, lw, ws, _, _, rfl, rfl, .of hw6, atI_nat gmb, mb, _, 0, _, rfl, rfl, .of mb6, rfl, mA.2.1, mB.2.1, rfl, by omega, by omega, fun rv H7 s7 dr => ?_⟩
          refine ⟨_, rfl, _, rfl, lw, ws, j, _, rfl, rfl, .of (s7 _ _ hw6), atI_nat gma, ma, _, 1, _, rfl, rfl, .of (s7 _ _ ma6), rfl, _, rfl, _, rfl, lw, ws, _, _, rfl, rfl, .of (s7 _ _ hw6), atI_nat gmb, mb, _, 1, _, rfl, rfl, .of (s7 _ _ mb6), rfl, _, rfl, line_big (by show 3 ≤ 16000000; decide), fun t nt => ?_⟩
          have kp7 := kp6.same s7
          have hl7 := s7 _ _ hl6
          have hd7 := hd6.same s7
          have s8 := same_new (o := .tup [.int mA.2.2, .int mB.2.2, rv]) (Same.refl H7) nt
          have kp8 := kp7.same s8
          have hl8 := s8 _ _ hl7
          have hd8 := hd7.same s8
          have hlen := few hv nd6 (okL _ hso6)
          have lxs : xs2.length = L2'.length := by rw [hd6.length, List.length_map]
          refine ⟨_, rfl, rfl, _, rfl, ?_⟩
          rcases rest_inv dr with ⟨er, rfl⟩ | ⟨r, ra, er, rfl, hra⟩
          · refine ifF (by rw [non_non]; rfl) ?_
            dsimp only
            rw [if_neg Bool.false_ne_true]
            exact ⟨L2', xs2, _, _, _, rfl, kp8, hl8, hd8, nd6, hso6⟩
          · refine ifT (by rw [ref_non]; rfl) ?_
            have hpl : ∃ st l1 l2, Reach M st ∧ IsStart M st l1 l2 (⟨mA.2.2, mB.2.2, r.1, r.2⟩ : Pl) := ⟨st, mA.1, mB.1, hrs, j, j + 1 + k, mA, mB, by omega, gmA, gmB, rfl, rfl, rfl, rfl, er⟩
            have okp : PlOk M ⟨mA.2.2, mB.2.2, r.1, r.2⟩ := by
              obtain ⟨st, l1, l2, h1, h2⟩ := hpl
              exact start_ok hv (reach_lt hv h1) h2
            have dp : Dat (upd H7 t (.tup [.int mA.2.2, .int mB.2.2, .ref ra])) (.ref t) (plD ⟨mA.2.2, mB.2.2, r.1, r.2⟩) := pl_mk upd_same (s8 _ _ hra)
            refine ⟨_, rfl, _, rfl, plD ⟨mA.2.2, mB.2.2, r.1, r.2⟩, L2'.map plD, dp.dp, dats_list hl8 hd8, shaped_pl hv okp, shaped_pls hv (okL _ hso6), _, rfl, ?_⟩
            rw [any_pl]
            by_cases hm : (⟨mA.2.2, mB.2.2, r.1, r.2⟩ : Pl) ∈ L2'
            · exact ifF (by rw [decide_eq_true hm]; rfl) ⟨L2', xs2, _, _, _, rfl, kp8, hl8, hd8, nd6, hso6⟩
            · refine ifT (by rw [decide_eq_false hm]; rfl) ?_
              refine ⟨.ref l, rfl, .inl ⟨rfl, _, .of hl8⟩, _, rfl, l, xs2, _, rfl, rfl, hl8, line_lt (by omega), L2' ++ [⟨mA.2.2, mB.2.2, r.1, r.2⟩], xs2 ++ [.ref t], _, _, _, rfl, kp8.put, upd_same, ?_, ?_, fun p hp => ?_⟩
              · rw [List.map_append]
                exact (hd8.snoc dp).to (ts_lst hl8)
              · rw [List.nodup_append]
                refine ⟨nd6, by simp, fun a ha b hb => ?_⟩
                have e : b = ⟨mA.2.2, mB.2.2, r.1, r.2⟩ := by simpa using hb
                subst e
                rintro rfl
                exact hm ha
              · rcases List.mem_append.mp hp with hp | hp
                · exact hso6 p hp
                · have e : p = ⟨mA.2.2, mB.2.2, r.1, r.2⟩ := by simpa using hp
                  rw [e]
                  exact hpl
        · rintro σ H6 ⟨L2', xs2, a5, a6, a7, rfl, kp6, hl6, hd6, nd6, hso6⟩
          exact ⟨L2', xs2, _, _, _, _, rfl, kp6, hl6, hd6, nd6, hso6⟩
      · rintro σ H5 ⟨L1, xs1, a4, a5, a6, a7, rfl, kp5, hl5, hd5, nd5, hso5⟩
        exact ⟨L1, xs1, _, _, _, _, _, _, rfl, (kp.same s4).trans kp5, hl5, hd5, nd5, hso5⟩
    · rintro σ H3 ⟨L, xs, a2, a3, a4, a5, a6, a7, rfl, kp, hl, hd, nd, hso⟩
      exact ⟨_, rfl, q L hso nd l xs H3 (Kp.to_same (s1.trans s2) nl kp) nl hl hd⟩
end
end K67


/-! K4o: the law's following, words, closed lists, met places. -/
namespace K67
open PySem PySem.Spec PyProof.Rows L2
theorem or_and {ta tb tc : TE} {σ : L2.St} {H : Hp} {Q : VK} {a b c r : Bool} (h1 : ∀ Q : VK, Q (.bl a) H → ta σ H Q) (h2 : ∀ Q : VK, Q (.bl b) H → tb σ H Q) (h3 : ∀ Q : VK, Q (.bl c) H → tc σ H Q) (e : (a || (b && c)) = r) (h : Q (.bl r) H) : tOrV ta (tAndV tb tc) σ H Q := by
  subst e
  refine h1 _ ⟨a, rfl, ?_⟩
  cases a with
  | true => exact ifT rfl h
  | false =>
    refine ifF rfl (h2 _ ⟨b, rfl, ?_⟩)
    cases b with
    | true => exact ifT rfl (h3 _ h)
    | false => exact ifF rfl h
theorem or_and_seq {ta tb tc : TE} {i : Nat} {u : L2.TS} {D : Ends} {σ : L2.St} {H : Hp} {a b c r : Bool} (h1 : ∀ Q : VK, Q (.bl a) H → ta σ H Q) (h2 : ∀ Q : VK, Q (.bl b) H → tb σ H Q) (h3 : ∀ Q : VK, Q (.bl c) H → tc σ H Q) (e : (a || (b && c)) = r)
    (h : u D (σ.set i (some (.bl r))) H) : tSeq (tAsg (tOrV ta (tAndV tb tc)) (gName i)) u D σ H := or_and h1 h2 h3 e h
theorem txL_at {L : List W} {i : Nat} {y : V} (h : (txL L)[i]? = some y) : ∃ x, L[i]? = some x ∧ y = .str (S x) := by
  unfold txL at h
  rw [List.getElem?_map] at h
  obtain ⟨x, hx, rfl⟩ := Option.map_eq_some_iff.mp h
  exact ⟨x, hx, rfl⟩
theorem txL_app (a b : List W) : txL (a ++ b) = txL a ++ txL b := by
  unfold txL
  rw [List.map_append]
theorem txL_len (a : List W) : (txL a).length = a.length := by
  unfold txL
  rw [List.length_map]
theorem count_le {L : List Pl} (nd : L.Nodup) (p : Pl) : (L.countP fun q => decide (q = p)) ≤ 1 := by
  induction L with
  | nil => simp
  | cons q L ih =>
    rw [List.nodup_cons] at nd
    rw [List.countP_cons]
    by_cases e : q = p
    · subst e
      have : (L.countP fun q' => decide (q' = q)) = 0 := by
        rw [List.countP_eq_zero]
        intro r hr
        simp
        rintro rfl
        exact nd.1 hr
      rw [this]
      simp
    · rw [decide_eq_false e]
      exact ih nd.2
section
variable {P : Program} {w : World} {K : PySem.W.Frag} {mg : Str → Option Value} {base : Heap}
theorem ok_law_following (T : Tx K mg) : FnOk P w K mg base CX0 2 T.f_law_following T.d_law_following ["_law_machine_here", "_law_place"] (sp_law_following) := by
  refine T.F_law_following.ok sc_law_following (fun vs H Q E h => ?_) (fun cdv A outer s H vs Q E hr h => ?_)
  · obtain ⟨v, M, u, p, rfl, _⟩ := h
    rfl
  · obtain ⟨v, M, u, p, rfl, m, d, ok, q⟩ := h
    have hv := m.1
    have hk3 := hv.k3
    refine ⟨_, PSs.nox (pss_cons (ps_asg (pv 1) (pg_tup (n := 3) rfl (pgs_cons (pg_name (i := 2) sc_law_following.nd rfl (by first | exact .inl rfl | exact .inr rfl)) (pgs_cons (pg_name (i := 3) sc_law_following.nd rfl (by first | exact .inl rfl | exact .inr rfl)) (pgs_cons (pg_name (i := 4) sc_law_following.nd rfl (by first | exact .inl rfl | exact .inr rfl)) pgs_nil))))) (pss_cons (ps_set (i := 5) sc_law_following.nd rfl (by first | exact .inl rfl | exact .inr rfl) (pe_or (pe_cmpR op_ne (pe_ix ix_tup (pv 4) pe_int (fun _ _ => rfl)) pe_str (nomark _)) (pe_one (pe_and (pe_cmpR op_eq (pe_ix ix_tup (pv 4) pe_int (fun _ _ => rfl)) pe_str (nomark _)) (pe_one (pe_cmpR op_ne (pv 2) (pe_un un_neg pe_int) (nomark _))))))) (pss_cons (ps_set (i := 6) sc_law_following.nd rfl (by first | exact .inl rfl | exact .inr rfl) (pe_ifExp (pt_truth (pv 5) (fun _ => rfl)) (pv 2) (pv 3))) (pss_cons (ps_set (i := 7) sc_law_following.nd rfl (by first | exact .inl rfl | exact .inr rfl) (pe_lst pa_nil)) (pss_cons (ps_if (pt_cmpR op_eq (pv 6) (pe_un un_neg pe_int) (nomark _)) (pss_one (ps_ret (pe_lst pa_nil))) pss_nil) (pss_cons (ps_for PassesOwn.never rfl (pi_list (pe_call (ok_law_moves T) (hr.mono (by decide)) rfl T.g_law_moves T.F_law_moves.kp T.b_law_moves .nil pass0 (pa_cons (pv 0) (pa_cons (pv 6) pa_nil)))) (pg_tup (n := 2) rfl (pgs_cons (pg_name (i := 8) sc_law_following.nd rfl (by first | exact .inl rfl | exact .inr rfl)) (pgs_cons (pg_name (i := 9) sc_law_following.nd rfl (by first | exact .inl rfl | exact .inr rfl)) pgs_nil))) (pss_cons (ps_if (pt_truth (pv 5) (fun _ => rfl)) (pss_cons (ps_set (i := 10) sc_law_following.nd rfl (by first | exact .inl rfl | exact .inr rfl) (pe_call (ok_law_rest T) (hr.mono (by decide)) rfl T.g_law_rest T.F_law_rest.kp T.b_law_rest .nil pass0 (pa_cons (pe_op op_add_str (pe_ix ix_tup (pv 4) pe_int (fun _ _ => rfl)) (pv 8)) (pa_cons (pe_ix ix_tup (pv 4) pe_int (fun _ _ => rfl)) pa_nil)))) (pss_one (ps_set (i := 1) sc_law_following.nd rfl (by first | exact .inl rfl | exact .inr rfl) (pe_tup (pa_cons (pv 9) (pa_cons (pv 3) (pa_cons (pv 10) pa_nil))))))) (pss_cons (ps_set (i := 10) sc_law_following.nd rfl (by first | exact .inl rfl | exact .inr rfl) (pe_call (ok_law_rest T) (hr.mono (by decide)) rfl T.g_law_rest T.F_law_rest.kp T.b_law_rest .nil pass0 (pa_cons (pe_ix ix_tup (pv 4) pe_int (fun _ _ => rfl)) (pa_cons (pe_op op_add_str (pe_ix ix_tup (pv 4) pe_int (fun _ _ => rfl)) (pv 8)) pa_nil)))) (pss_one (ps_set (i := 1) sc_law_following.nd rfl (by first | exact .inl rfl | exact .inr rfl) (pe_tup (pa_cons (pv 2) (pa_cons (pv 9) (pa_cons (pv 10) pa_nil)))))))) (pss_one (ps_if (pt_cmpR op_notN (pv 10) pe_non (nomark _)) (pss_one (ps_expr (pe_bm PySem.F.plainAttrs_list PySem.F.slot_list_append PySem.F.type_list_append mt_append (pv 7) (pa_cons (pv 1) pa_nil)))) pss_nil)))) (pss_one (ps_ret (pv 7))))))))), ?_⟩
    obtain ⟨pa, pb, rfl, hp, hp2⟩ := pl_inv d
    have z1 := ok.s0
    have z2 := ok.s1
    have z3 := ok.t0
    have z4 := ok.t1
    refine ⟨_, rfl, pa, _, rfl, .of hp, rfl, _, _, rfl, _, _, rfl, _, _, rfl, rfl, ?_⟩
    dsimp only
    refine or_and_seq (r := isF p) (a := decide (p.y ≠ [])) (b := decide (p.x = [])) (c := decide (p.s ≠ -1)) (fun Q h => ⟨_, rfl, pb, _, 1, _, rfl, rfl, .of hp2, rfl, rfl, ?_⟩) (fun Q h => ⟨_, rfl, pb, _, 0, _, rfl, rfl, .of hp2, rfl, rfl, ?_⟩) (fun Q h => ⟨_, rfl, 1, rfl, rfl, ?_⟩) rfl ?_
    · have e : (!decide (V.str (S p.y) = V.str "")) = decide (p.y ≠ []) := by
        rw [Bool.eq_iff_iff]
        simp only [Bool.not_eq_true', decide_eq_false_iff_not, decide_eq_true_iff]
        exact not_congr S_ne_nil
      rw [e]
      exact h
    · have e : decide (V.str (S p.x) = V.str "") = decide (p.x = []) := by
        rw [Bool.eq_iff_iff]
        simp only [decide_eq_true_iff]
        exact S_ne_nil
      rw [e]
      exact h
    · have e : (!decide (V.int p.s = V.int (-1))) = decide (p.s ≠ -1) := by
        rw [Bool.eq_iff_iff]
        simp
      rw [e]
      exact h
    cases hF : isF p with
    | true =>
      have eg : goL M p = if p.s = -1 then [] else (moves M p.s.toNat).filterMap (goF p) := by unfold goL; rw [if_pos hF]
      refine ⟨_, rfl, true, rfl, ifT rfl ⟨_, rfl, Nat.zero_le _, fun l nl => ?_⟩⟩
      have s1 := same_new (o := .lst []) (Same.refl H) nl
      refine ⟨_, rfl, 1, rfl, rfl, _, rfl, ifB (fun c => ?_) (fun c => ?_)⟩
      · have c : p.s = -1 := V.int.inj (of_decide_eq_true c)
        rw [if_pos c] at eg
        refine ⟨Nat.zero_le _, fun l2 nl2 => q l2 [] _ (same_new s1 nl2) (s1.free nl2) upd_same ?_⟩
        unfold foll
        rw [eg]
        exact .nil
      · have c : p.s ≠ -1 := fun e => of_decide_eq_false c (by rw [e])
        rw [if_neg c] at eg
        obtain ⟨n, hn⟩ : ∃ n : Nat, p.s = n := ⟨p.s.toNat, by omega⟩
        have hn2 : p.s.toNat = n := by omega
        rw [hn2] at eg
        have hst : n < M.rows.length := by omega
        refine ⟨_, rfl, _, rfl, v, M, n, by rw [hn]; rfl, m.same s1, hst, fun lw ws H4 s4 nlw hlw hdw => ?_⟩
        have hl4 : H4 l = some (.lst []) := s4 _ _ upd_same
        have hml := moves_len hv hst
        have lws : ws.length = (moves M n).length := by rw [hdw.length, List.length_map]
        have nlwl : lw ≠ l := fun e => by rw [e, upd_same] at nlw; cases nlw
        have hp4 : H4 pb = _ := (s1.trans s4) _ _ hp2
        refine ⟨lw, rfl, ⟨_, .of hlw⟩, for_list (fun i σ H' => ∃ (xs : List L2.V) (a1 a8 a9 a10 : Option L2.V), σ = [some v, a1, some (.int p.s), some (.int p.t), some (.ref pb), some (.bl true), some (.int p.s), some (.ref l), a8, a9, a10] ∧ Kp l H4 H' ∧ H' l = some (.lst xs) ∧ Dats H' xs ((((moves M n).take i).filterMap (goF p)).map fun g => plD g.2.2) ∧ xs.length ≤ i)
          ⟨[], _, none, none, none, rfl, Kp.refl _ _, hl4, .nil, Nat.le_refl _⟩ (fun i σ H' _ ⟨_, _, _, _, _, _, kp, _⟩ => .of (kp _ _ nlwl hlw)) ?_ ?_⟩
        · rintro i x σ H5 hx ⟨xs, a1, a8, a9, a10, rfl, kp, hl, hd, hlen⟩
          have hi4 : i < (moves M n).length := by rw [← lws]; exact (List.getElem?_eq_some_iff.mp hx).1
          obtain ⟨dd, gd, hdd⟩ := hdw.at hx
          rw [List.getElem?_map] at gd
          obtain ⟨mm, gm, rfl⟩ := Option.map_eq_some_iff.mp gd
          obtain ⟨ma, rfl, hma⟩ := lm_inv hdd
          have mo := mv_ok hv hst (List.mem_of_getElem? gm)
          have hma5 : H5 ma = _ := kp _ _ (ne_of hma hl4 fun z => nomatch z) hma
          have hpb5 : H5 pb = some (.tup [.str (S p.x), .str (S p.y)]) := kp.ts hl4 _ _ hp4
          refine ⟨ma, _, rfl, .of hma5, rfl, _, _, rfl, _, _, rfl, rfl, ?_⟩
          have lx := ok.x2
          have ly := ok.y2
          have lm := mo.n2
          refine ⟨_, rfl, true, rfl, ifT rfl ?_⟩
          refine ⟨_, rfl, pb, _, 0, _, rfl, rfl, .of hpb5, rfl, _, rfl, S p.x, S mm.2.1, rfl, rfl, line_big (by rw [S_len, S_len]; omega), _, rfl, pb, _, 1, _, rfl, rfl, .of hpb5, rfl, p.x ++ mm.2.1, p.y, by rw [S_app]; rfl, by rw [List.length_append]; omega, by omega, fun rv H6 s6 dr => ?_⟩
          refine ⟨_, rfl, _, rfl, _, rfl, line_big (by show 3 ≤ 16000000; decide), fun t1 nt1 => ⟨_, rfl, rfl, _, rfl, ?_⟩⟩
          have kp6 := kp.same s6
          have hl6 := s6 _ _ hl
          have hd6 := hd.same s6
          have sn := snoc_go (f := goF p) gm
          rcases rest_inv dr with ⟨er, rfl⟩ | ⟨r, ra, er, rfl, hra⟩
          · refine ifF (by rw [non_non]; rfl) ⟨xs, _, _, _, _, rfl, kp6.new nt1, by rw [upd_ne (ne_of_none hl6 nt1)]; exact hl6, ?_, by omega⟩
            have eg2 : goF p mm = none := by unfold goF; rw [er]; rfl
            rw [sn, eg2]
            simpa using hd6.to (ts_new nt1)
          · refine ifT (by rw [ref_non]; rfl) ?_
            have eg2 : goF p mm = some (mm.1, [], ⟨mm.2.2, p.t, r.1, r.2⟩) := by unfold goF; rw [er]; rfl
            have s7 := same_new (o := .tup [.int mm.2.2, .int p.t, .ref ra]) (Same.refl H6) nt1
            have hl7 := s7 _ _ hl6
            refine ⟨.ref l, rfl, .inl ⟨rfl, _, .of hl7⟩, _, rfl, l, xs, _, rfl, rfl, hl7, line_lt (by omega), xs ++ [.ref t1], _, _, _, _, rfl, (kp6.same s7).put, upd_same, ?_, by rw [List.length_append]; simp; omega⟩
            rw [sn, eg2, List.map_append]
            refine Dats.to ?_ (ts_lst hl7)
            exact (hd6.same s7).snoc (pl_mk (p := ⟨mm.2.2, p.t, r.1, r.2⟩) upd_same (s7 _ _ hra))
        · rintro σ H5 ⟨xs, a1, a8, a9, a10, rfl, kp, hl, hd, hlen⟩
          refine ⟨_, rfl, q l xs H5 (Kp.to_same (s1.trans s4) nl kp) nl hl ?_⟩
          rw [lws, List.take_length] at hd
          unfold foll
          rw [eg, List.map_map]
          exact hd
    | false =>
      have eg : goL M p = if p.t = -1 then [] else (moves M p.t.toNat).filterMap (goS p) := by unfold goL; rw [if_neg (by rw [hF]; exact Bool.false_ne_true)]
      refine ⟨_, rfl, false, rfl, ifF rfl ⟨_, rfl, Nat.zero_le _, fun l nl => ?_⟩⟩
      have s1 := same_new (o := .lst []) (Same.refl H) nl
      refine ⟨_, rfl, 1, rfl, rfl, _, rfl, ifB (fun c => ?_) (fun c => ?_)⟩
      · have c : p.t = -1 := V.int.inj (of_decide_eq_true c)
        rw [if_pos c] at eg
        refine ⟨Nat.zero_le _, fun l2 nl2 => q l2 [] _ (same_new s1 nl2) (s1.free nl2) upd_same ?_⟩
        unfold foll
        rw [eg]
        exact .nil
      · have c : p.t ≠ -1 := fun e => of_decide_eq_false c (by rw [e])
        rw [if_neg c] at eg
        obtain ⟨n, hn⟩ : ∃ n : Nat, p.t = n := ⟨p.t.toNat, by omega⟩
        have hn2 : p.t.toNat = n := by omega
        rw [hn2] at eg
        have hst : n < M.rows.length := by omega
        refine ⟨_, rfl, _, rfl, v, M, n, by rw [hn]; rfl, m.same s1, hst, fun lw ws H4 s4 nlw hlw hdw => ?_⟩
        have hl4 : H4 l = some (.lst []) := s4 _ _ upd_same
        have hml := moves_len hv hst
        have lws : ws.length = (moves M n).length := by rw [hdw.length, List.length_map]
        have nlwl : lw ≠ l := fun e => by rw [e, upd_same] at nlw; cases nlw
        have hp4 : H4 pb = _ := (s1.trans s4) _ _ hp2
        refine ⟨lw, rfl, ⟨_, .of hlw⟩, for_list (fun i σ H' => ∃ (xs : List L2.V) (a1 a8 a9 a10 : Option L2.V), σ = [some v, a1, some (.int p.s), some (.int p.t), some (.ref pb), some (.bl false), some (.int p.t), some (.ref l), a8, a9, a10] ∧ Kp l H4 H' ∧ H' l = some (.lst xs) ∧ Dats H' xs ((((moves M n).take i).filterMap (goS p)).map fun g => plD g.2.2) ∧ xs.length ≤ i)
          ⟨[], _, none, none, none, rfl, Kp.refl _ _, hl4, .nil, Nat.le_refl _⟩ (fun i σ H' _ ⟨_, _, _, _, _, _, kp, _⟩ => .of (kp _ _ nlwl hlw)) ?_ ?_⟩
        · rintro i x σ H5 hx ⟨xs, a1, a8, a9, a10, rfl, kp, hl, hd, hlen⟩
          have hi4 : i < (moves M n).length := by rw [← lws]; exact (List.getElem?_eq_some_iff.mp hx).1
          obtain ⟨dd, gd, hdd⟩ := hdw.at hx
          rw [List.getElem?_map] at gd
          obtain ⟨mm, gm, rfl⟩ := Option.map_eq_some_iff.mp gd
          obtain ⟨ma, rfl, hma⟩ := lm_inv hdd
          have mo := mv_ok hv hst (List.mem_of_getElem? gm)
          have hma5 : H5 ma = _ := kp _ _ (ne_of hma hl4 fun z => nomatch z) hma
          have hpb5 : H5 pb = some (.tup [.str (S p.x), .str (S p.y)]) := kp.ts hl4 _ _ hp4
          refine ⟨ma, _, rfl, .of hma5, rfl, _, _, rfl, _, _, rfl, rfl, ?_⟩
          have lx := ok.x2
          have ly := ok.y2
          have lm := mo.n2
          refine ⟨_, rfl, false, rfl, ifF rfl ?_⟩
          refine ⟨_, rfl, pb, _, 0, _, rfl, rfl, .of hpb5, rfl, _, rfl, pb, _, 1, _, rfl, rfl, .of hpb5, rfl, _, rfl, S p.y, S mm.2.1, rfl, rfl, line_big (by rw [S_len, S_len]; omega), p.x, p.y ++ mm.2.1, by rw [S_app]; rfl, by omega, by rw [List.length_append]; omega, fun rv H6 s6 dr => ?_⟩
          refine ⟨_, rfl, _, rfl, _, rfl, line_big (by show 3 ≤ 16000000; decide), fun t1 nt1 => ⟨_, rfl, rfl, _, rfl, ?_⟩⟩
          have kp6 := kp.same s6
          have hl6 := s6 _ _ hl
          have hd6 := hd.same s6
          have sn := snoc_go (f := goS p) gm
          rcases rest_inv dr with ⟨er, rfl⟩ | ⟨r, ra, er, rfl, hra⟩
          · refine ifF (by rw [non_non]; rfl) ⟨xs, _, _, _, _, rfl, kp6.new nt1, by rw [upd_ne (ne_of_none hl6 nt1)]; exact hl6, ?_, by omega⟩
            have eg2 : goS p mm = none := by unfold goS; rw [er]; rfl
            rw [sn, eg2]
            simpa using hd6.to (ts_new nt1)
          · refine ifT (by rw [ref_non]; rfl) ?_
            have eg2 : goS p mm = some ([], mm.1, ⟨p.s, mm.2.2, r.1, r.2⟩) := by unfold goS; rw [er]; rfl
            have s7 := same_new (o := .tup [.int p.s, .int mm.2.2, .ref ra]) (Same.refl H6) nt1
            have hl7 := s7 _ _ hl6
            refine ⟨.ref l, rfl, .inl ⟨rfl, _, .of hl7⟩, _, rfl, l, xs, _, rfl, rfl, hl7, line_lt (by omega), xs ++ [.ref t1], _, _, _, _, rfl, (kp6.same s7).put, upd_same, ?_, by rw [List.length_append]; simp; omega⟩
            rw [sn, eg2, List.map_append]
            refine Dats.to ?_ (ts_lst hl7)
            exact (hd6.same s7).snoc (pl_mk (p := ⟨p.s, mm.2.2, r.1, r.2⟩) upd_same (s7 _ _ hra))
        · rintro σ H5 ⟨xs, a1, a8, a9, a10, rfl, kp, hl, hd, hlen⟩
          refine ⟨_, rfl, q l xs H5 (Kp.to_same (s1.trans s4) nl kp) nl hl ?_⟩
          rw [lws, List.take_length] at hd
          unfold foll
          rw [eg, List.map_map]
          exact hd
theorem ok_law_words (T : Tx K mg) : FnOk P w K mg base CX0 1 T.f_law_words T.d_law_words ["_law_k", "_law_length"] (sp_law_words) := by
  refine T.F_law_words.ok sc_law_words (fun vs H Q E h => ?_) (fun cdv A outer s H vs Q E hr h => ?_)
  · obtain ⟨k, n, rfl, _⟩ := h
    rfl
  · obtain ⟨k, n, rfl, hk2, hk3, hn, q⟩ := h
    refine ⟨_, PSs.nox (pss_cons (ps_set (i := 2) sc_law_words.nd rfl (by first | exact .inl rfl | exact .inr rfl) (pe_lst (pa_cons pe_str pa_nil))) (pss_cons (ps_set (i := 3) sc_law_words.nd rfl (by first | exact .inl rfl | exact .inr rfl) (pe_lst (pa_cons pe_str pa_nil))) (pss_cons (ps_for PassesOwn.never rfl (pi_range1 (by rfl) T.n_range (pa_cons (pv 1) pa_nil)) (pg_name (i := 4) sc_law_words.nd rfl (by first | exact .inl rfl | exact .inr rfl)) (pss_cons (ps_set (i := 5) sc_law_words.nd rfl (by first | exact .inl rfl | exact .inr rfl) (pe_lst pa_nil)) (pss_cons (ps_for PassesOwn.never rfl (pi_list (pv 3)) (pg_name (i := 6) sc_law_words.nd rfl (by first | exact .inl rfl | exact .inr rfl)) (pss_one (ps_set (i := 5) sc_law_words.nd rfl (by first | exact .inl rfl | exact .inr rfl) (pe_op op_cat (pv 5) (pe_lc rfl sc_law_words.nd (pi_range1 (by rfl) T.n_range (pa_cons (pv 0) pa_nil)) (blkOk_by (own := [("_law_letter", 7)]) (by rfl)) (fun _ _ _ _ _ => (pg_name (i := 7) sc_law_words.nd rfl (by first | exact .inl rfl | exact .inr rfl))) (fun _ _ _ _ _ => pts_nil) (fun _ _ _ _ _ => (pe_op op_add_str (pv 6) (pe_ix ix_str pe_str (pv 7) (fun _ _ => rfl))))))))) (pss_cons (ps_set (i := 2) sc_law_words.nd rfl (by first | exact .inl rfl | exact .inr rfl) (pe_op op_cat (pv 2) (pv 5))) (pss_one (ps_set (i := 3) sc_law_words.nd rfl (by first | exact .inl rfl | exact .inr rfl) (pv 5))))))) (pss_one (ps_ret (pv 2)))))), ?_⟩
    refine ⟨line_big (by show 1 ≤ 16000000; decide), fun l nl => ⟨line_big (by show 1 ≤ 16000000; decide), fun r nr => ?_⟩⟩
    have s1 := same_new (o := .lst [.str ""]) (Same.refl H) nl
    have s2 := same_new (o := .lst [.str ""]) s1 nr
    have nlr := ne_of_none upd_same nr
    refine ⟨_, rfl, (n : Int), rfl, by omega, by omega, for_range (n := (n : Int).toNat) (fun j σ H' => ∃ (l r : Addr) (a4 a5 a6 a7 : Option L2.V), σ = [some (.int k), some (.int n), some (.ref l), some (.ref r), a4, a5, a6, a7] ∧ Same H H' ∧ H' l = some (.lst (txL (wordsW k j))) ∧ H' r = some (.lst (txL (ringW k j))) ∧ H l = none)
      ⟨l, r, none, none, none, none, rfl, s2, by rw [upd_ne nlr, upd_same, S_nil.symm]; rfl, by rw [upd_same, S_nil.symm]; rfl, nl⟩ ?_ ?_⟩
    · rintro j σ H1 hj ⟨l, r, a4, a5, a6, a7, rfl, sm, hl, hr, nl⟩
      have hj : j < n := by omega
      have rl := ring_len k j
      have rl2 := pow_le (n := j) hk3 (by omega)
      have wl := words_len hk3 j (by omega)
      refine ⟨Nat.zero_le _, fun g ng => ?_⟩
      have s3 := same_new (o := .lst []) (Same.refl H1) ng
      refine ⟨_, rfl, r, rfl, ⟨_, .of (s3 _ _ hr)⟩, for_list (fun i σ H' => ∃ (g : Addr) (a6 a7 : Option L2.V), σ = [some (.int k), some (.int n), some (.ref l), some (.ref r), some (.int (0 + j)), some (.ref g), a6, a7] ∧ Same H1 H' ∧ H' g = some (.lst (txL (((ringW k j).take i).flatMap fun x => (List.range k).map fun jj => x ++ [97 + jj]))))
        ⟨g, _, _, rfl, s3, upd_same⟩ (fun i σ H' _ ⟨_, _, _, _, sm, _⟩ => .of (sm _ _ hr)) ?_ ?_⟩
      · rintro i y σ H2 hy ⟨g, b6, b7, rfl, sm2, hg⟩
        obtain ⟨x, gx, rfl⟩ := txL_at hy
        have hi : i < (ringW k j).length := (List.getElem?_eq_some_iff.mp gx).1
        have lx := ring_word k j x (List.mem_of_getElem? gx)
        have hfl : ((((ringW k j).take i).flatMap fun x => (List.range k).map fun jj => x ++ [97 + jj])).length ≤ 300 := by
          rw [List.length_flatMap]
          simp only [List.length_map, List.length_range]
          rw [List.map_const', List.sum_replicate_nat, List.length_take]
          have : min i (ringW k j).length ≤ 81 := by omega
          calc _ ≤ 81 * 3 := Nat.mul_le_mul this hk3
            _ ≤ 300 := by decide
        refine ⟨_, rfl, _, rfl, (k : Int), rfl, by omega, by omega, fun D nD => ?_⟩
        refine lc_range (n := (k : Int).toNat) (LcP (fun acc _ => acc = txL (((List.range k).take acc.length).map fun jj => x ++ [97 + jj])) H2 D) (lcp_zero nD rfl) ?_ ?_
        · rintro c H3 hc ⟨acc, sm3, hD, hla, ra⟩
          have hc : c < k := by omega
          have e0 : (0 : Int) + (c : Nat) = (c : Nat) := Int.zero_add _
          refine ⟨rfl, yes ⟨_, rfl, _, rfl, _, c, 97 + c, rfl, by rw [e0], line_big (by decide), letter_at (by omega), S x, ⟨#[97 + c]⟩, rfl, rfl, line_big (by rw [S_len]; show x.length + 1 ≤ _; omega), ?_⟩⟩
          refine lcp_step nD sm3 hD hla (by omega) ?_
          show acc ++ [_] = _
          have ra : acc = txL (((List.range k).take acc.length).map fun jj => x ++ [97 + jj]) := ra
          rw [hla] at ra
          rw [List.length_append, List.length_singleton, hla, List.take_add_one, List.getElem?_range hc, List.map_append, txL_app, ← ra]
          rw [show (⟨#[97 + c]⟩ : Str) = S [97 + c] from rfl, S_app]
          rfl
        · rintro H3 ⟨acc, sm3, hD, hla, ra⟩
          have hla : acc.length = k := by rw [hla]; omega
          have ra : acc = txL (((List.range k).take acc.length).map fun jj => x ++ [97 + jj]) := ra
          rw [hla, List.take_of_length_le (by rw [List.length_range]; exact Nat.le_refl _)] at ra
          refine ⟨g, D, _, acc, rfl, rfl, sm3 _ _ hg, hD, by rw [txL_len]; exact line_big (Nat.le_trans (Nat.add_le_add hfl (Nat.le_of_eq hla)) (by omega)), fun p np => ?_⟩
          refine ⟨p, _, _, rfl, same_new (sm2.trans sm3) np, ?_⟩
          rw [upd_same, List.take_add_one, gx, List.flatMap_append, txL_app, ra]
          simp
      · rintro σ H2 ⟨g, b6, b7, rfl, sm2, hg⟩
        rw [txL_len, List.take_length] at hg
        have hg : H2 g = some (.lst (txL (ringW k (j + 1)))) := hg
        have rl3 := ring_len k (j + 1)
        have rl4 := pow_le (n := j + 1) hk3 (by omega)
        refine ⟨_, rfl, _, rfl, l, g, _, _, rfl, rfl, sm2 _ _ hl, hg, by rw [txL_len, txL_len]; exact line_big (by omega), fun p np => ?_⟩
        refine ⟨_, rfl, p, g, _, _, _, _, rfl, same_new (sm.trans sm2) np, ?_, by rw [upd_ne (ne_of_none hg np)]; exact hg, (sm.trans sm2).free np⟩
        rw [upd_same, ← txL_app]
        rfl
    · rintro σ H1 ⟨l, r, a4, a5, a6, a7, rfl, sm, hl, hr, nl⟩
      have e : (n : Int).toNat = n := by omega
      rw [e] at hl
      exact ⟨_, rfl, q l _ H1 sm nl hl (dats_txL _)⟩
end
end K67


/-! K4p: the law's closed lists, met places. -/
namespace K67
open PySem PySem.Spec PyProof.Rows L2
theorem pe_bmK {X : Cx} {K : PySem.W.Frag} {o e : Expr} {es : List Expr} {to : TE} {t : TA} {name : Str} {apos cpos : Pos} {T id : String} {r : V → List V → Hp → VK → Prop} (hK : X.K = K) (pa : PlainAttrs T) (slot : Slot T name id) (hty : typeOf (.builtin id) = pure (.type "method_descriptor")) (hm : MtR X id r) (ho : PE X o to) (ha : PA X (e :: es) t)
    (hbase : attributeBase o name X.env (eval o X.env) = eval o X.env := by rfl)
    (hfew : ((backTo cpos (starEach (e :: es) X.env)).all (fun x => !x.1) && (backToKw cpos (keywordEach [] X.env)).all (fun x => x.1.isSome)
      && decide ((e :: es).length + ([] : List Keyword).length + (if ([] : List Keyword).isEmpty then 0 else 1) < 30)) = true := by rfl)
    (hline : (apos.endLine == cpos.line) = true := by rfl) (hs : starEach (e :: es) X.env = (false, eval e X.env) :: starEach es X.env := by rfl) (hplain : (backTo cpos (starEach es X.env)).any (·.1) = false := by rfl) :
    PE X (.Call (.Attribute o name apos) (e :: es) [] cpos) (tBM K T r to t) := by
  subst hK
  exact pe_bm pa slot hty hm ho ha hbase hfew hline hs hplain
theorem foll_len {M : Mach} (hv : Valid M) {p : Pl} (ok : PlOk M p) : (foll M p).length ≤ 1000 := by
  have z1 := ok.s0
  have z2 := ok.s1
  have z3 := ok.t0
  have z4 := ok.t1
  have h4 : ∀ (f : Move → Option Go) (s : Nat), s < M.rows.length → ((moves M s).filterMap f).length ≤ 4 := fun f s hs => by
    have h1 := List.length_filterMap_le f (moves M s)
    have h2 := moves_len hv hs
    have h3 := hv.k3
    omega
  unfold foll goL
  rw [List.length_map]
  split
  · split
    · simp
    · have := h4 (goF p) p.s.toNat (by omega)
      omega
  · split
    · simp
    · have := h4 (goS p) p.t.toNat (by omega)
      omega
theorem foll_ok {M : Mach} (hv : Valid M) {p : Pl} (ok : PlOk M p) {r : Pl} (h : r ∈ foll M p) : PlOk M r := by
  obtain ⟨g, hg, rfl⟩ := List.mem_map.mp h
  exact (go_ok hv ok hg).1
section
variable {P : Program} {w : World} {K : PySem.W.Frag} {mg : Str → Option Value} {base : Heap}
theorem ok_law_met (T : Tx K mg) : FnOk P w K mg base CX0 3 T.f_law_met T.d_law_met ["_law_machine_here", "_law_most"] (sp_law_met) := by
  refine T.F_law_met.ok sc_law_met (fun vs H Q E h => ?_) (fun cdv A outer s H vs Q E hr h => ?_)
  · obtain ⟨v, M, rfl, _⟩ := h
    rfl
  · obtain ⟨v, M, rfl, m, q⟩ := h
    have hv := m.1
    refine ⟨_, PSs.nox (pss_cons (ps_set (i := 2) sc_law_met.nd rfl (by first | exact .inl rfl | exact .inr rfl) (pe_call (ok_law_starts T) (hr.mono (by decide)) rfl T.g_law_starts T.F_law_starts.kp T.b_law_starts .nil pass0 (pa_cons (pv 0) pa_nil))) (pss_cons (ps_for PassesOwn.never rfl (pi_range1 (by rfl) T.n_range (pa_cons (pv 1) pa_nil)) (pg_name (i := 3) sc_law_met.nd rfl (by first | exact .inl rfl | exact .inr rfl)) (pss_one (ps_if (pt_cmpR op_lt (pv 3) (pe_callB call_len rfl T.n_len boot_len (pa_cons (pv 2) pa_nil)) (nomark _)) (pss_one (ps_for PassesOwn.never rfl (pi_list (pe_call (ok_law_following T) (hr.mono (by decide)) rfl T.g_law_following T.F_law_following.kp T.b_law_following .nil pass0 (pa_cons (pv 0) (pa_cons (pe_ix ix_list (pv 2) (pv 3) (fun _ _ => rfl)) pa_nil)))) (pg_name (i := 4) sc_law_met.nd rfl (by first | exact .inl rfl | exact .inr rfl)) (pss_one (ps_if (pt_cmpR (op_notInD (room65 hr)) (pv 4) (pv 2) rfl) (pss_one (ps_expr (pe_bm PySem.F.plainAttrs_list PySem.F.slot_list_append PySem.F.type_list_append mt_append (pv 2) (pa_cons (pv 4) pa_nil)))) pss_nil)))) pss_nil))) (pss_one (ps_ret (pv 2))))), ?_⟩
    refine ⟨_, rfl, v, M, rfl, m, fun L0 hso nd0 l xs0 H1 s1 nl hl0 hd0 => ?_⟩
    have ok0 : ∀ p ∈ L0, PlOk M p := fun p hp => by
      obtain ⟨st, l1, l2, h1, h2⟩ := hso p hp
      exact start_ok hv (reach_lt hv h1) h2
    refine ⟨_, rfl, 60, rfl, by decide, by decide, for_range (fun i σ H' => ∃ (L : List Pl) (xs : List L2.V) (a3 a4 : Option L2.V), σ = [some v, some (.int 60), some (.ref l), a3, a4] ∧ Same H H' ∧ H' l = some (.lst xs) ∧ Dats H' xs (L.map plD) ∧ L.Nodup ∧ ∀ p ∈ L, PlOk M p)
      ⟨L0, xs0, none, none, rfl, s1, hl0, hd0, nd0, ok0⟩ ?_ ?_⟩
    · rintro i σ H2 hi ⟨L, xs, a3, a4, rfl, sm, hl, hd, nd, hok⟩
      have lxs : xs.length = L.length := by rw [hd.length, List.length_map]
      have e0 : (0 : Int) + (i : Nat) = (i : Nat) := Int.zero_add _
      rw [e0]
      refine ⟨_, rfl, _, rfl, _, L.length, rfl, .inl ⟨xs, .of hl, lxs.symm⟩, _, _, rfl, rfl, _, rfl, ifB (fun c => ?_) (fun c => ?_)⟩
      · have c := of_decide_eq_true c
        have hlt : i < L.length := by omega
        have gp : L[i]? = some L[i] := List.getElem?_eq_getElem hlt
        generalize L[i] = p at gp
        have okp := hok p (List.mem_of_getElem? gp)
        obtain ⟨pv, gx, dp⟩ := hd.get (i := i) (d := plD p) (by rw [List.getElem?_map, gp]; rfl)
        refine ⟨_, rfl, _, rfl, _, rfl, l, xs, i, pv, rfl, rfl, .of hl, atI_nat gx, v, M, pv, p, rfl, m.same sm, dp, okp, fun lf fs H3 s3 nlf hlf hdf => ⟨lf, rfl, ⟨_, .of hlf⟩, ?_⟩⟩
        have hl3 := s3 _ _ hl
        have nlfl : lf ≠ l := fun e => by rw [e, hl] at nlf; cases nlf
        refine for_list (fun k σ H' => ∃ (L' : List Pl) (xs' : List L2.V) (a4 : Option L2.V), σ = [some v, some (.int 60), some (.ref l), some (.int (i : Nat)), a4] ∧ Kp l H3 H' ∧ H' l = some (.lst xs') ∧ Dats H' xs' (L'.map plD) ∧ L'.Nodup ∧ ∀ p ∈ L', PlOk M p)
          ⟨L, xs, _, rfl, Kp.refl _ _, hl3, hd.same s3, nd, hok⟩ (fun k σ H' _ ⟨_, _, _, _, kp, _⟩ => .of (kp _ _ nlfl hlf)) ?_ ?_
        · rintro k y σ H4 hy ⟨L1, xs1, b4, rfl, kp, hl4, hd4, nd4, hok4⟩
          obtain ⟨dd, gd, hdd⟩ := hdf.at hy
          rw [List.getElem?_map] at gd
          obtain ⟨r, gr, rfl⟩ := Option.map_eq_some_iff.mp gd
          have okr := foll_ok hv okp (List.mem_of_getElem? gr)
          have dr := hdd.to (kp.ts hl3)
          have hlen := few hv nd4 hok4
          have lx1 : xs1.length = L1.length := by rw [hd4.length, List.length_map]
          refine ⟨_, rfl, _, rfl, plD r, L1.map plD, dr.dp, dats_list hl4 hd4, shaped_pl hv okr, shaped_pls hv hok4, _, rfl, ?_⟩
          rw [any_pl]
          by_cases hm : r ∈ L1
          · exact ifF (by rw [decide_eq_true hm]; rfl) ⟨L1, xs1, _, rfl, kp, hl4, hd4, nd4, hok4⟩
          · refine ifT (by rw [decide_eq_false hm]; rfl) ?_
            refine ⟨.ref l, rfl, .inl ⟨rfl, _, .of hl4⟩, _, rfl, l, xs1, _, rfl, rfl, hl4, line_lt (by omega), L1 ++ [r], xs1 ++ [y], _, rfl, kp.put, upd_same, ?_, ?_, fun p hp => ?_⟩
            · rw [List.map_append]
              exact (hd4.snoc dr).to (ts_lst hl4)
            · rw [List.nodup_append]
              refine ⟨nd4, by simp, fun a ha b hb => ?_⟩
              have e : b = r := by simpa using hb
              subst e
              rintro rfl
              exact hm ha
            · rcases List.mem_append.mp hp with hp | hp
              · exact hok4 p hp
              · have e : p = r := by simpa using hp
                rw [e]
                exact okr
        · rintro σ H4 ⟨L1, xs1, b4, rfl, kp, hl4, hd4, nd4, hok4⟩
          exact ⟨L1, xs1, _, _, rfl, Kp.to_same (sm.trans s3) nl kp, hl4, hd4, nd4, hok4⟩
      · exact ⟨L, xs, _, _, rfl, sm, hl, hd, nd, hok⟩
    · rintro σ H2 ⟨L, xs, a3, a4, rfl, sm, hl, hd, nd, hok⟩
      exact ⟨_, rfl, q L nd hok l xs H2 sm nl hl hd⟩
theorem ok_law_is_closed (T : Tx K mg) : FnOk P w K mg base CX0 3 T.f_law_is_closed T.d_law_is_closed ["_law_machine_here", "_law_places_here"] (sp_law_is_closed) := by
  refine T.F_law_is_closed.ok sc_law_is_closed (fun vs H Q E h => ?_) (fun cdv A outer s H vs Q E hr h => ?_)
  · obtain ⟨v, M, l, L, rfl, _⟩ := h
    rfl
  · obtain ⟨v, M, l, L, rfl, m, ⟨xs, hl, hxs⟩, hlen, hok, hC, q⟩ := h
    have hv := m.1
    refine ⟨_, PSs.nox (pss_cons (ps_if (pt_truth (pe_callB (cr_any rfl) rfl T.n_any boot_any (pa_cons (pe_lc rfl sc_law_is_closed.nd (pi_list (pv 1)) (blkOk_by (own := [("_law_place", 2)]) (by rfl)) (fun _ _ _ _ _ => (pg_name (i := 2) sc_law_is_closed.nd rfl (by first | exact .inl rfl | exact .inr rfl))) (fun _ _ _ _ _ => pts_nil) (fun _ _ _ _ _ => (pe_or (pe_cmpR op_gt (pe_bmK (K := K) rfl PySem.F.plainAttrs_list PySem.F.slot_list_count PySem.F.type_list_count (mt_countDK (K := K) rfl (room65 hr)) (pv 1) (pa_cons (pv 2) pa_nil)) pe_int (nomark _)) (pe_one (pe_cmpR (op_eqDK (K := K) rfl hr.units) (pv 2) (pe_tup (pa_cons (pe_un un_neg pe_int) (pa_cons (pe_un un_neg pe_int) (pa_cons (pe_tup (pa_cons pe_str (pa_cons pe_str pa_nil))) pa_nil)))) (nomark _)))))) pa_nil)) (fun _ => rfl)) (pss_one (ps_ret pe_bl)) pss_nil) (pss_cons (ps_for PassesOwn.never rfl (pi_list (pe_op op_cat (pv 1) (pe_call (ok_law_starts T) (hr.mono (by decide)) rfl T.g_law_starts T.F_law_starts.kp T.b_law_starts .nil pass0 (pa_cons (pv 0) pa_nil)))) (pg_name (i := 2) sc_law_is_closed.nd rfl (by first | exact .inl rfl | exact .inr rfl)) (pss_one (ps_if (PW.pt (pw_or (pt_cmpR (op_notInD (room65 hr)) (pv 2) (pv 1) rfl) (pw_or1 (pt_not (pt_truth (pe_callB (cr_all rfl) rfl T.n_all boot_all (pa_cons (pe_lc rfl sc_law_is_closed.nd (pi_list (pe_call (ok_law_following T) (hr.mono (by decide)) rfl T.g_law_following T.F_law_following.kp T.b_law_following .nil pass0 (pa_cons (pv 0) (pa_cons (pv 2) pa_nil)))) (blkOk_by (own := [("_law_after", 3)]) (by rfl)) (fun _ _ _ _ _ => (pg_name (i := 3) sc_law_is_closed.nd rfl (by first | exact .inl rfl | exact .inr rfl))) (fun _ _ _ _ _ => pts_nil) (fun _ _ _ _ _ => (pe_cmpR (op_inDK (K := K) rfl (room65 hr)) (pv 3) (pv 1) rfl))) pa_nil)) (fun _ => rfl)))))) (pss_one (ps_ret pe_bl)) pss_nil))) (pss_one (ps_ret pe_bl)))), ?_⟩
    have lxs : xs.length = L.length := by rw [hxs.length, List.length_map]
    refine ⟨_, rfl, l, rfl, ⟨xs, .of hl⟩, fun D nD => ?_⟩
    refine lc_it (walk_list (xs := xs)) (LcP (AccB (fun _ => false) L) H D) (lcp_zero nD accB_nil) (fun i H4 _ ⟨acc, sm, _⟩ => .of (sm _ _ hl)) (fun i y H4 H' hi ⟨acc, sm, hDa, hla, ra⟩ hy => ?_) (fun H4 ⟨acc, sm, hDa, hla, ra⟩ => ?_)
    · obtain ⟨rfl, hy⟩ := hy
      obtain ⟨dd, gd, hdd⟩ := hxs.at hy
      rw [List.getElem?_map] at gd
      obtain ⟨p, gp, rfl⟩ := Option.map_eq_some_iff.mp gd
      have hp := List.mem_of_getElem? gp
      have okp := hok p hp
      have hl4 := sm _ _ hl
      have hxs4 := hxs.same sm
      refine ⟨rfl, yes ⟨_, rfl, .inl ⟨rfl, _, .of hl4⟩, _, rfl, l, y, plD p, L.map plD, rfl, rfl, dats_list hl4 hxs4, (hdd.same sm).dp, shaped_pls hv hok, shaped_pl hv okp, _, _, rfl, rfl, _, rfl, ?_⟩⟩
      rw [count_pl]
      have hc := count_le hC.nd p
      refine ifF (decide_eq_false (by omega)) ?_
      refine ⟨_, rfl, 1, rfl, 1, rfl, line_big (by show 2 ≤ 16000000; decide), fun b nb => ⟨line_big (by show 3 ≤ 16000000; decide), fun a na => ?_⟩⟩
      have hb : (upd (upd H' b (.tup [.str ("" : Str), .str ("" : Str)])) a (.tup [.int (-1), .int (-1), .ref b])) b = some (.tup [.str ("" : Str), .str ("" : Str)]) := by
        have n : b ≠ a := fun e => by
          subst e
          rw [upd_same] at na
          cases na
        rw [upd_ne n, upd_same]
      have s2 := same_new (o := .tup [.int (-1), .int (-1), .ref b]) (same_new (o := .tup [.str ("" : Str), .str ("" : Str)]) (Same.refl H') nb) na
      refine ⟨plD p, plD doneP, ((hdd.same sm).same s2).dp, (pl_mk (p := doneP) upd_same (by rw [hb, S_nil])).dp, shaped_pl hv okp, shaped_done, ?_⟩
      rw [eqv_pl]
      have hnd : decide (p = doneP) = false := decide_eq_false fun e => hC.nodone (by rw [← e]; exact hp)
      rw [hnd]
      exact lcp_step nD (sm.trans s2) (s2 _ _ hDa) hla (by omega) (accB_snoc (f := fun _ => false) ra hla gp)
    · have ea := accB_end ra (by rw [hla, lxs])
      refine ⟨D, L.map fun _ => false, rfl, .of (by rw [← ea]; exact hDa), _, rfl, ?_⟩
      have hany : (L.map fun _ => false).any id = false := by
        rw [List.any_map]
        simp
      rw [hany]
      refine ifF rfl ?_
      have hl4 := sm _ _ hl
      refine ⟨_, rfl, _, rfl, v, M, rfl, m.same sm, fun Lz hso nd2 ls ss H5 s5 nls hls hds => ?_⟩
      have s05 := sm.trans s5
      have ok2 : ∀ p ∈ Lz, PlOk M p := fun p hp => by
        obtain ⟨st, l1, l2, h1, h2⟩ := hso p hp
        exact start_ok hv (reach_lt hv h1) h2
      have lss : ss.length = Lz.length := by rw [hds.length, List.length_map]
      have hl2 := few hv nd2 ok2
      refine ⟨l, ls, xs, ss, rfl, rfl, s05 _ _ hl, hls, line_big (by omega), fun pc npc => ⟨pc, rfl, ⟨_, .of upd_same⟩, ?_⟩⟩
      have s6 := same_new (o := .lst (xs ++ ss)) (Same.refl H5) npc
      obtain ⟨H6, eH6⟩ : ∃ H6, H6 = upd H5 pc (.lst (xs ++ ss)) := ⟨_, rfl⟩
      have hpc : H6 pc = some (.lst (xs ++ ss)) := by rw [eH6, upd_same]
      rw [← eH6] at s6 ⊢
      have s06 := s05.trans s6
      have hds6 : Dats H6 (xs ++ ss) ((L ++ Lz).map plD) := by
        rw [List.map_append]
        exact (hxs.same s06).app (hds.same s6)
      refine for_list (fun i σ H' => ∃ (a2 a3 : Option L2.V), σ = [some v, some (.ref l), a2, a3] ∧ Same H6 H') ⟨_, _, rfl, Same.refl _⟩ (fun i σ H' _ ⟨_, _, _, sm⟩ => .of (sm _ _ hpc)) ?_ ?_
      · rintro i y σ H7 hy ⟨a2, a3, rfl, s7⟩
        obtain ⟨dd, gd, hdd⟩ := hds6.at hy
        rw [List.getElem?_map] at gd
        obtain ⟨p, gp, rfl⟩ := Option.map_eq_some_iff.mp gd
        have hp : p ∈ L := by
          rcases List.mem_append.mp (List.mem_of_getElem? gp) with h | h
          · exact h
          · obtain ⟨st, l1, l2, h1, h2⟩ := hso p h
            exact hC.st st l1 l2 p h1 h2
        have okp := hok p hp
        have s07 := s06.trans s7
        refine ⟨_, rfl, _, rfl, plD p, L.map plD, (hdd.same s7).dp, dats_list (s07 _ _ hl) (hxs.same s07), shaped_pl hv okp, shaped_pls hv hok, _, rfl, ?_⟩
        rw [any_pl]
        refine ifF (by rw [decide_eq_true hp]; rfl) ?_
        refine ⟨_, rfl, _, rfl, v, M, y, p, rfl, m.same s07, hdd.same s7, okp, fun lf fs H8 s8 nlf hlf hdf => ⟨lf, rfl, ⟨_, .of hlf⟩, fun D3 nD3 => ?_⟩⟩
        have lfs : fs.length = (foll M p).length := by rw [hdf.length, List.length_map]
        have hfl := foll_len hv okp
        have s08 := s07.trans s8
        refine lc_it (walk_list (xs := fs)) (LcP AllT H8 D3) (lcp_zero nD3 allT_nil) (fun i H9 _ ⟨acc, sm, _⟩ => .of (sm _ _ hlf)) (fun i z H9 H' hi ⟨acc, sm9, hD9, hla9, ra9⟩ hz => ?_) (fun H9 ⟨acc, sm9, hD9, hla9, ra9⟩ => ?_)
        · obtain ⟨rfl, hz⟩ := hz
          obtain ⟨dd, gd, hdz⟩ := hdf.at hz
          rw [List.getElem?_map] at gd
          obtain ⟨r, gr, rfl⟩ := Option.map_eq_some_iff.mp gd
          have hr := List.mem_of_getElem? gr
          have s09 := s08.trans sm9
          refine ⟨rfl, yes ⟨_, rfl, _, rfl, plD r, L.map plD, (hdz.same sm9).dp, dats_list (s09 _ _ hl) (hxs.same s09), shaped_pl hv (foll_ok hv okp hr), shaped_pls hv hok, ?_⟩⟩
          rw [any_pl, decide_eq_true (hC.fo p hp r hr)]
          exact lcp_step nD3 sm9 hD9 hla9 (by omega) (allT_snoc ra9)
        · have ra9 : acc = (List.replicate acc.length true).map V.bl := ra9
          refine ⟨D3, List.replicate acc.length true, rfl, .of (by rw [← ra9]; exact hD9), _, rfl, ?_⟩
          exact ifF (by rw [allT_all]; rfl) ⟨_, _, rfl, s7.trans (s8.trans sm9)⟩
      · rintro σ H7 ⟨a2, a3, rfl, s7⟩
        exact q H7 (s06.trans s7)
end
end K67


/-! K5: the law. -/
namespace K67
open PySem PySem.Spec PyProof.Rows L2
theorem ring_let (k : Nat) : ∀ (n : Nat) (x : W), x ∈ ringW k n → Let k x
  | 0, x, h => by
    have e : x = [] := by simpa [ringW] using h
    rw [e]
    exact let_nil
  | n + 1, x, h => by
    obtain ⟨y, hy, hx⟩ := List.mem_flatMap.mp h
    obtain ⟨j, hj, rfl⟩ := List.mem_map.mp hx
    exact let_app (ring_let k n y hy) (let_one (List.mem_range.mp hj))
theorem words_ok (k : Nat) : ∀ (n : Nat) (x : W), x ∈ wordsW k n → Let k x ∧ x.length ≤ n
  | 0, x, h => by
    have e : x = [] := by simpa [wordsW] using h
    rw [e]
    exact ⟨let_nil, Nat.le_refl _⟩
  | n + 1, x, h => by
    rcases List.mem_append.mp h with h | h
    · obtain ⟨h1, h2⟩ := words_ok k n x h
      exact ⟨h1, by omega⟩
    · exact ⟨ring_let k _ x h, by rw [ring_word k _ x h]; exact Nat.le_refl _⟩
theorem words24 : (wordsW 2 4).Nodup := by decide +kernel
theorem words33 : (wordsW 3 3).Nodup := by decide +kernel
/-- all false -/
def AllN (acc : List V) : Prop := acc = (List.replicate acc.length false).map V.bl
theorem allN_snoc {acc : List V} {b : Bool} (h : AllN acc) (hb : b = false) : AllN (acc ++ [.bl b]) := by
  unfold AllN at h ⊢
  rw [List.length_append, List.length_singleton, List.replicate_succ', List.map_append, ← h, hb]
  rfl
theorem allN_any (n : Nat) : (List.replicate n false).any id = false := by
  induction n with
  | zero => rfl
  | succ n ih => rw [List.replicate_succ, List.any_cons, ih]; rfl
section
variable {P : Program} {w : World} {K : PySem.W.Frag} {mg : Str → Option Value} {base : Heap}
theorem ok_law (T : Tx K mg) : FnOk P w K mg base CX0 9 T.f_law T.d_law ["_law_script"] (sp_law K) := by
  refine T.F_law.ok sc_law (fun vs H Q E h => ?_) (fun cdv A outer s H vs Q E hr h => ?_)
  · obtain ⟨a, ns, rfl, _⟩ := h
    rfl
  · obtain ⟨a, ns, rfl, hS, hn, q⟩ := h
    refine ⟨_, PSs.nox (pss_cons (ps_set (i := 1) sc_law.nd rfl (by first | exact .inl rfl | exact .inr rfl) (pe_call (ok_law_draws T) (hr.mono (by decide)) rfl T.g_law_draws T.F_law_draws.kp T.b_law_draws .nil pass0 (pa_cons (pv 0) pa_nil))) (pss_cons (ps_expr (pe_bm0 PySem.F.plainAttrs_list PySem.F.slot_list_reverse PySem.F.type_list_reverse mt_reverse (pv 1))) (pss_cons (ps_set (i := 2) sc_law.nd rfl (by first | exact .inl rfl | exact .inr rfl) (pe_op op_add pe_int (pe_op op_fdiv (pe_op op_mod (pe_callTy call_int1 rfl T.n_int boot_int (pa_cons (pe_call (ok_law_next T) (hr.mono (by decide)) rfl T.g_law_next T.F_law_next.kp T.b_law_next .nil pass0 (pa_cons (pv 1) pa_nil)) pa_nil)) pe_int) pe_int))) (pss_cons (ps_set (i := 3) sc_law.nd rfl (by first | exact .inl rfl | exact .inr rfl) (pe_call (ok_law_drawn T) (hr.mono (by decide)) rfl T.g_law_drawn T.F_law_drawn.kp T.b_law_drawn .nil pass0 (pa_cons (pv 1) (pa_cons (pv 2) pa_nil)))) (pss_cons (ps_set (i := 4) sc_law.nd rfl (by first | exact .inl rfl | exact .inr rfl) (pe_call (ok_closed_places T) (hr.mono (by decide)) rfl T.g_closed_places T.F_closed_places.kp T.b_closed_places .nil pass0 (pa_cons (pv 3) pa_nil))) (pss_cons (ps_set (i := 5) sc_law.nd rfl (by first | exact .inl rfl | exact .inr rfl) (pe_call (ok_two_words T) (hr.mono (by decide)) rfl T.g_two_words T.F_two_words.kp T.b_two_words .nil pass0 (pa_cons (pv 3) pa_nil))) (pss_cons (ps_if (pt_cmpR op_eq (pe_cmpR op_isN (pv 4) pe_non (nomark _)) (pe_cmpR op_isN (pv 5) pe_non (nomark _)) (nomark _)) (pss_one (ps_ret pe_bl)) pss_nil) (pss_cons (ps_if (pt_cmpR op_isN (pv 4) pe_non (nomark _)) (pss_cons (ps_asg (pv 5) (pg_tup (n := 2) rfl (pgs_cons (pg_name (i := 6) sc_law.nd rfl (by first | exact .inl rfl | exact .inr rfl)) (pgs_cons (pg_name (i := 7) sc_law.nd rfl (by first | exact .inl rfl | exact .inr rfl)) pgs_nil)))) (pss_cons (ps_if (PW.pt (pw_or (pt_cmpR op_eq (pv 6) (pv 7) (nomark _)) (pw_or1 (pt_cmpR op_ne (pe_call (ok_law_form T) (hr.mono (by decide)) rfl T.g_law_form T.F_law_form.kp T.b_law_form .nil pass0 (pa_cons (pv 3) (pa_cons (pv 6) pa_nil))) (pe_call (ok_law_form T) (hr.mono (by decide)) rfl T.g_law_form T.F_law_form.kp T.b_law_form .nil pass0 (pa_cons (pv 3) (pa_cons (pv 7) pa_nil))) (nomark _))))) (pss_one (ps_ret pe_bl)) pss_nil) (pss_cons (ps_set (i := 8) sc_law.nd rfl (by first | exact .inl rfl | exact .inr rfl) (pe_call (ok_law_met T) (hr.mono (by decide)) rfl T.g_law_met T.F_law_met.kp T.b_law_met .nil pass0 (pa_cons (pv 3) (pa_cons pe_int pa_nil)))) (pss_cons (ps_setLc (i := 9) rfl sc_law.nd rfl rfl (by rfl) (pi_list (pv 8)) (blkOk_by (own := [("_law_place", 10)]) (by rfl)) (fun _ _ _ _ _ => (pg_name (i := 10) sc_law.nd rfl (by first | exact .inl rfl | exact .inr rfl))) (fun _ _ _ _ _ => pts_one (pt_cmpR (op_neDK (K := K) rfl hr.units) (pv 10) (pe_tup (pa_cons (pe_un un_neg pe_int) (pa_cons (pe_un un_neg pe_int) (pa_cons (pe_tup (pa_cons pe_str (pa_cons pe_str pa_nil))) pa_nil)))) (nomark _))) (fun _ _ _ _ _ => (pv 10))) (pss_one (ps_ret (pe_not (pe_callB (cr_any rfl) rfl T.n_any boot_any (pa_cons (pe_lc rfl sc_law.nd (pi_list (pe_lst (pa_cons (pv 8) (pa_cons (pv 9) (pa_cons (pe_call (ok_law_starts T) (hr.mono (by decide)) rfl T.g_law_starts T.F_law_starts.kp T.b_law_starts .nil pass0 (pa_cons (pv 3) pa_nil)) (pa_cons (pe_lst pa_nil) pa_nil)))))) (blkOk_by (own := [("_law_given", 11)]) (by rfl)) (fun _ _ _ _ _ => (pg_name (i := 11) sc_law.nd rfl (by first | exact .inl rfl | exact .inr rfl))) (fun _ _ _ _ _ => pts_nil) (fun _ _ _ _ _ => (pe_call (ok_is_closed_list T) (hr.mono (by decide)) rfl T.g_is_closed_list T.F_is_closed_list.kp T.b_is_closed_list .nil pass0 (pa_cons (pv 3) (pa_cons (pv 11) pa_nil))))) pa_nil))))))))) pss_nil) (pss_cons (ps_if (PW.pt (pw_or (pt_not (pt_truth (pe_call (ok_law_is_closed T) (hr.mono (by decide)) rfl T.g_law_is_closed T.F_law_is_closed.kp T.b_law_is_closed .nil pass0 (pa_cons (pv 3) (pa_cons (pv 4) pa_nil))) (fun _ => rfl))) (pw_or1 (pt_cmpR op_notBl (pe_call (ok_is_closed_list T) (hr.mono (by decide)) rfl T.g_is_closed_list T.F_is_closed_list.kp T.b_is_closed_list .nil pass0 (pa_cons (pv 3) (pa_cons (pe_callTy call_list_of rfl T.n_list boot_list (pa_cons (pv 4) pa_nil)) pa_nil))) pe_bl (nomark _))))) (pss_one (ps_ret pe_bl)) pss_nil) (pss_cons (ps_set (i := 12) sc_law.nd rfl (by first | exact .inl rfl | exact .inr rfl) pe_dnewK) (pss_cons (ps_set (i := 13) sc_law.nd rfl (by first | exact .inl rfl | exact .inr rfl) (pe_call (ok_law_words T) (hr.mono (by decide)) rfl T.g_law_words T.F_law_words.kp T.b_law_words .nil pass0 (pa_cons (pv 2) (pa_cons (pe_op op_sub pe_int (pv 2)) pa_nil)))) (pss_cons (ps_for PassesOwn.never rfl (pi_list (pv 13)) (pg_name (i := 14) sc_law.nd rfl (by first | exact .inl rfl | exact .inr rfl)) (pss_one (ps_dput (room1 hr) (pv 12) (pe_call (ok_form T) (hr.mono (by decide)) rfl T.g_form T.F_form.kp T.b_form .nil pass0 (pa_cons (pv 3) (pa_cons (pv 14) pa_nil))) (pv 14) rfl))) (pss_cons (ps_if (pt_cmpR op_ne (pe_callB call_lenD rfl T.n_len boot_len (pa_cons (pv 12) pa_nil)) (pe_callB call_len rfl T.n_len boot_len (pa_cons (pv 13) pa_nil)) (nomark _)) (pss_one (ps_ret pe_bl)) pss_nil) (pss_cons (ps_for PassesOwn.never rfl (pi_range1 (by rfl) T.n_range (pa_cons pe_int pa_nil)) (pg_name (i := 15) sc_law.nd rfl (by first | exact .inl rfl | exact .inr rfl)) (pss_cons (ps_set (i := 6) sc_law.nd rfl (by first | exact .inl rfl | exact .inr rfl) (pe_call (ok_law_text T) (hr.mono (by decide)) rfl T.g_law_text T.F_law_text.kp T.b_law_text .nil pass0 (pa_cons (pv 1) (pa_cons (pv 2) (pa_cons pe_int pa_nil))))) (pss_cons (ps_set (i := 7) sc_law.nd rfl (by first | exact .inl rfl | exact .inr rfl) (pe_call (ok_law_text T) (hr.mono (by decide)) rfl T.g_law_text T.F_law_text.kp T.b_law_text .nil pass0 (pa_cons (pv 1) (pa_cons (pv 2) (pa_cons pe_int pa_nil))))) (pss_one (ps_if (PW.pt (pw_and (pt_cmpR op_ne (pv 6) (pv 7) (nomark _)) (pw_and1 (pt_cmpR op_eq (pe_call (ok_law_form T) (hr.mono (by decide)) rfl T.g_law_form T.F_law_form.kp T.b_law_form .nil pass0 (pa_cons (pv 3) (pa_cons (pv 6) pa_nil))) (pe_call (ok_law_form T) (hr.mono (by decide)) rfl T.g_law_form T.F_law_form.kp T.b_law_form .nil pass0 (pa_cons (pv 3) (pa_cons (pv 7) pa_nil))) (nomark _))))) (pss_one (ps_ret pe_bl)) pss_nil))))) (pss_one (ps_ret pe_bl)))))))))))))))), ?_⟩
    refine ⟨_, rfl, a, ns, rfl, hS, hn, fun dl ds H1 s1 ndl hdl hds => ?_⟩
    refine ⟨_, rfl, .inl ⟨rfl, _, .of hdl⟩, dl, _, rfl, rfl, hdl, ?_⟩
    have d2 : DL (upd H1 dl (.lst (ds.map V.int).reverse)) dl := ⟨ds.reverse, by rw [upd_same, List.map_reverse], by rw [List.length_reverse]; exact hds⟩
    refine ⟨_, rfl, dl, rfl, d2, fun i H3 d3 e3 => .inl ⟨_, rfl, _, _, rfl, rfl, by show (0 : Int) < 3; decide, _, _, rfl, rfl, ⟨by show (0 : Int) < 2; decide, by show (2 : Int) < 1073741824; decide⟩, _, _, rfl, rfl, ?_⟩⟩
    have hs0 : 0 ≤ i % 3 := Int.emod_nonneg _ (by decide)
    have hs1 : i % 3 < 3 := Int.emod_lt_of_pos _ (by decide)
    obtain ⟨k, ek, hk2, hk3⟩ : ∃ k : Nat, 2 + i % 3 / 2 = k ∧ 2 ≤ k ∧ k ≤ 3 := ⟨(2 + i % 3 / 2).toNat, by omega, by omega, by omega⟩
    dsimp only
    rw [ek]
    refine ⟨_, rfl, _, rfl, dl, k, rfl, d3.dl, hk2, hk3, fun M v H4 hv ekM d4 dm => ?_⟩
    have m4 : MAt H4 v M := ⟨hv, dm⟩
    refine ⟨_, rfl, v, M, rfl, m4, fun L hC hok lp xs H5 s5 nlp hlp hxs => ?_, fun x y am H5 s5 => ?_⟩
    · -- the list is closed
      have m5 := m4.same s5
      refine ⟨_, rfl, v, M, rfl, m5, fun L' hC' H6 s6 => ?_, fun x y am => (amb_no hv hC am).elim⟩
      have m6 := m5.same s6
      have hL := few hv hC.nd hok
      have lat : LAt H6 lp L := ⟨xs, s6 _ _ hlp, hxs.same s6⟩
      refine ⟨_, rfl, rfl, _, rfl, rfl, rfl, _, rfl, ifF (by simp) ?_⟩
      refine ⟨_, rfl, rfl, _, rfl, ifF (ref_non _) ?_⟩
      refine ⟨_, rfl, _, rfl, v, M, lp, L, rfl, m6, lat, by omega, hok, hC, fun H7 s7 => ⟨true, rfl, ifF rfl ?_⟩⟩
      have m7 := m6.same s7
      have hlp7 := s7 _ _ (s6 _ _ hlp)
      have hxs7 := (hxs.same s6).same s7
      refine ⟨_, rfl, _, rfl, lp, xs, rfl, .inl (.of hlp7), fun l8 nl8 => ?_⟩
      have s8 := same_new (o := .lst xs) (Same.refl H7) nl8
      refine ⟨v, M, l8, L, rfl, m7.same s8, ⟨xs, upd_same, hxs7.same s8⟩, by omega, hok, fun b hb H9 s9 => ?_⟩
      have eb : b = true := hb.mpr hC
      subst eb
      refine ⟨true, true, rfl, rfl, _, rfl, ifF rfl ?_⟩
      have m9 := (m7.same s8).same s9
      have s49 : Same H4 H9 := (((s5.trans s6).trans s7).trans s8).trans s9
      intro fd nfd
      have s10 := same_new (o := .dK []) (Same.refl H9) nfd
      obtain ⟨nn, enn, hnn, hndW⟩ : ∃ nn : Nat, (6 : Int) - k = nn ∧ nn ≤ 4 ∧ (wordsW k nn).Nodup := by
        have hk : k = 2 ∨ k = 3 := by omega
        rcases hk with rfl | rfl
        · exact ⟨4, rfl, by decide, words24⟩
        · exact ⟨3, rfl, by decide, words33⟩
      refine ⟨_, rfl, _, rfl, _, _, rfl, rfl, k, nn, by dsimp only; rw [enn]; rfl, hk2, hk3, hnn, fun lt ts H11 s11 nlt hlt hts => ?_⟩
      have hfd11 := s11 _ _ upd_same
      have m11 := (m9.same s10).same s11
      have lts : ts.length = (wordsW k nn).length := by rw [hts.length, List.length_map]
      have wlen := words_len hk3 nn hnn
      have nltfd : lt ≠ fd := fun e => by rw [e, upd_same] at nlt; cases nlt
      have s411 : Same H4 H11 := (s49.trans s10).trans s11
      have d411 : Dr dl H3 H11 := d4.trans (.of_same d4.dl s411)
      have nfd4 : H3 fd = none := by
        cases z : H3 fd with
        | none => rfl
        | some u =>
          have ne : fd ≠ dl := fun e => by
            obtain ⟨_, h, _⟩ := (Dr.of_same d4.dl s49).dl
            rw [← e, nfd] at h
            cases h
          rw [s49 _ _ (d4.keep _ _ ne z)] at nfd
          cases nfd
      refine ⟨_, rfl, lt, rfl, ⟨_, .of hlt⟩, for_list (fun j σ H' => ∃ (a6 a7 a8 a9 a10 a11 a14 a15 : Option L2.V), σ = [some (.ref a), some (.ref dl), some (.int k), some v, some (.ref lp), some .non, a6, a7, a8, a9, a10, a11, some (.ref fd), some (.ref lt), a14, a15] ∧ Kp fd H11 H' ∧ H' fd = some (.dK (((wordsW k nn).take j).map fun x => ((.inr (S (form M x)) : Key), V.str (S x)))))
        ⟨_, _, _, _, _, _, _, _, rfl, Kp.refl _ _, hfd11⟩ (fun j σ H' _ ⟨_, _, _, _, _, _, _, _, _, kp, _⟩ => .of (kp _ _ nltfd hlt)) ?_ ?_⟩
      · rintro j y σ H12 hy ⟨a6, a7, a8, a9, a10, a11, a14, a15, rfl, kp, hfd⟩
        obtain ⟨dd, gd, hdd⟩ := hts.at hy
        rw [List.getElem?_map] at gd
        obtain ⟨x, gx, rfl⟩ := Option.map_eq_some_iff.mp gd
        have ey := Dat.str_inv hdd
        subst ey
        obtain ⟨lx, lx2⟩ := words_ok k nn x (List.mem_of_getElem? gx)
        have m12 : MAt H12 v M := m11.ts fun b ys e => kp b _ (ne_of e hfd11 fun z => nomatch z) e
        refine ⟨_, rfl, _, rfl, _, rfl, _, rfl, v, M, x, rfl, m12, by rw [ekM]; exact lx, by omega, fun H13 s13 => ?_⟩
        have hfd13 := s13 _ _ hfd
        refine ⟨fd, _, rfl, DPut.k (k := .inr (S (form M x))) hfd13 (by rw [List.length_map, List.length_take]; exact line_lt (by omega)), _, _, _, _, _, _, _, _, rfl, (kp.same s13).put, ?_⟩
        rw [upd_same, List.take_add_one, gx, List.map_append]
        have vn : valV (((wordsW k nn).take j).map fun x => ((.inr (S (form M x)) : Key), V.str (S x))) (.inr (S (form M x))) = none := by
          have go : ∀ l : List W, (∀ y ∈ l, form M y ≠ form M x) → valV (l.map fun x => ((.inr (S (form M x)) : Key), V.str (S x))) (.inr (S (form M x))) = none := by
            intro l
            induction l with
            | nil => intro _; rfl
            | cons y l ih =>
              intro h
              rw [List.map_cons, valV_neg (fun z => h y List.mem_cons_self (S_inj (Sum.inr.inj z)))]
              exact ih fun z hz => h z (List.mem_cons_of_mem _ hz)
          refine go _ fun y0 hy0 e => ?_
          have hy' := List.mem_of_mem_take hy0
          have exy : y0 = x := one_to_one hv hC (by rw [ekM]; exact (words_ok k nn y0 hy').1) (by rw [ekM]; exact lx) e
          rw [exy] at hy0
          have hsub : ((wordsW k nn).take j ++ [x]).Nodup := by
            have h2 := hndW.sublist (List.take_sublist (j + 1) (wordsW k nn))
            rwa [List.take_add_one, gx] at h2
          exact (List.nodup_append.mp hsub).2.2 x hy0 x List.mem_cons_self rfl
        rw [putK_new _ vn]
        rfl
      · rintro σ H12 ⟨a6, a7, a8, a9, a10, a11, a14, a15, rfl, kp, hfd⟩
        rw [lts, List.take_length] at hfd
        have hlt12 : H12 lt = some (.lst ts) := kp _ _ nltfd hlt
        refine ⟨_, rfl, fd, _, rfl, hfd, _, rfl, _, ts.length, rfl, .inl ⟨ts, .of hlt12, rfl⟩, rfl, _, rfl, ifF ?_ ?_⟩
        · rw [List.length_map, lts]
          simp
        have d12 : Dr dl H3 H12 := ⟨fun b u n e => kp b u (fun z => by rw [z, nfd4] at e; cases e) (d411.keep b u n e), by
          obtain ⟨z, hz, lz⟩ := d411.dl
          exact ⟨z, kp _ _ (ne_of hz hfd11 fun z => nomatch z) hz, lz⟩⟩
        have m12 : MAt H12 v M := m11.ts fun b ys e => kp b _ (ne_of e hfd11 fun z => nomatch z) e
        refine ⟨4, rfl, by decide, by decide, for_range (fun j σ H' => ∃ (a6 a7 a8 a9 a10 a11 a12 a13 a14 a15 : Option L2.V), σ = [some (.ref a), some (.ref dl), some (.int k), some v, some (.ref lp), some .non, a6, a7, a8, a9, a10, a11, a12, a13, a14, a15] ∧ DL H' dl ∧ MAt H' v M)
          ⟨_, _, _, _, _, _, _, _, _, _, rfl, d12.dl, m12⟩ ?_ ?_⟩
        · rintro j σ H13 hj ⟨a6, a7, a8, a9, a10, a11, a12, a13, a14, a15, rfl, d13, m13⟩
          refine ⟨_, rfl, _, rfl, dl, k, 8, rfl, d13, hk2, hk3, by decide, fun x H14 hx lx d14 => ?_⟩
          have m14 := m13.ts (d14.ts d13)
          refine ⟨_, rfl, _, rfl, dl, k, 8, rfl, d14.dl, hk2, hk3, by decide, fun y H15 hy ly d15 => ?_⟩
          have m15 := m14.ts (d15.ts d14.dl)
          have done : ∀ H', Same H15 H' → DL H' dl ∧ MAt H' v M := fun H' s => ⟨(Dr.of_same d15.dl s).dl, m15.same s⟩
          refine ⟨_, rfl, _, rfl, rfl, _, rfl, ifB (fun c => ?_) (fun c => ifF rfl ⟨_, _, _, _, _, _, _, _, _, _, rfl, done _ (Same.refl _)⟩)⟩
          have hne : x ≠ y := fun e => by
            rw [e] at c
            simp at c
          refine ⟨_, rfl, _, rfl, v, M, x, rfl, m15, by rw [ekM]; exact hx, by omega, fun H16 s16 => ?_⟩
          refine ⟨_, rfl, _, rfl, v, M, y, rfl, m15.same s16, by rw [ekM]; exact hy, by omega, fun H17 s17 => ?_⟩
          refine ⟨rfl, _, rfl, ifF (decide_eq_false fun e => hne (one_to_one hv hC (by rw [ekM]; exact hx) (by rw [ekM]; exact hy) (S_inj (V.str.inj e)))) ⟨_, _, _, _, _, _, _, _, _, _, rfl, done _ (s16.trans s17)⟩⟩
        · rintro σ H13 _
          exact q H13
    · -- two words, one text
      have m5 := m4.same s5
      refine ⟨_, rfl, v, M, rfl, m5, fun L hC => (amb_no hv hC am).elim, fun u1 u2 am2 l1 l2 vw H6 s6 dw => ?_⟩
      have m6 := m5.same s6
      obtain ⟨wa, wxs, rfl, hwa, dws⟩ := dw.tup_inv
      obtain ⟨w1, w2, rfl, dw1, dw2⟩ := dws.two_inv
      rw [Dat.str_inv dw1, Dat.str_inv dw2] at hwa
      refine ⟨_, rfl, rfl, _, rfl, rfl, rfl, _, rfl, ifF (by simp) ?_⟩
      refine ⟨_, rfl, rfl, _, rfl, ifT non_non ?_⟩
      refine ⟨_, rfl, wa, _, rfl, .of hwa, rfl, _, _, rfl, _, _, rfl, rfl, ?_⟩
      refine ⟨_, rfl, _, rfl, rfl, _, rfl, ifF (decide_eq_false fun e => am2.ne (S_inj (V.str.inj e))) ?_⟩
      refine ⟨_, rfl, _, rfl, v, M, u1, rfl, m6, am2.lu, by omega, fun H7 s7 => ⟨_, rfl, _, rfl, v, M, u2, rfl, m6.same s7, am2.lv, by omega, fun H8 s8 => ⟨rfl, _, rfl, ?_⟩⟩⟩
      refine ifF (by rw [am2.eq, decide_eq_true rfl]; rfl) ?_
      have m8 := (m6.same s7).same s8
      refine ⟨_, rfl, v, M, rfl, m8, fun Lm ndm okm lm ms H9 s9 nlm hlm hdm => ?_⟩
      have m9 := m8.same s9
      have fewm := few hv ndm okm
      have lms : ms.length = Lm.length := by rw [hdm.length, List.length_map]
      refine ⟨_, rfl, lm, rfl, ⟨_, .of hlm⟩, fun D nD => ?_⟩
      refine lc_it (walk_list (xs := ms)) (fun i H' => ∃ (acc : List L2.V) (L' : List Pl), Same H9 H' ∧ H' D = some (.lst acc) ∧ Dats H' acc (L'.map plD) ∧ L'.length ≤ i ∧ ∀ p ∈ L', PlOk M p) ⟨[], [], same_new (Same.refl _) nD, upd_same, .nil, Nat.le_refl _, fun p hp => absurd hp List.not_mem_nil⟩ (fun i H' _ ⟨_, _, sm, _⟩ => .of (sm _ _ hlm)) (fun i y H4' H' hi ⟨acc, L', sm, hD, hd, hlen, hok⟩ hy => ?_) (fun H10 ⟨acc, L', sm, hD, hd, hlen, hok⟩ => ?_)
      · obtain ⟨rfl, hy⟩ := hy
        obtain ⟨dd, gd, hdd⟩ := hdm.at hy
        rw [List.getElem?_map] at gd
        obtain ⟨p, gp, rfl⟩ := Option.map_eq_some_iff.mp gd
        have okp := okm p (List.mem_of_getElem? gp)
        refine ⟨rfl, _, rfl, 1, rfl, 1, rfl, line_big (by show 2 ≤ 16000000; decide), fun b nb => ⟨line_big (by show 3 ≤ 16000000; decide), fun c nc => ?_⟩⟩
        have hb : (upd (upd H' b (.tup [.str ("" : Str), .str ("" : Str)])) c (.tup [.int (-1), .int (-1), .ref b])) b = some (.tup [.str ("" : Str), .str ("" : Str)]) := by
          have n : b ≠ c := fun e => by
            subst e
            rw [upd_same] at nc
            cases nc
          rw [upd_ne n, upd_same]
        have s2 := same_new (o := .tup [.int (-1), .int (-1), .ref b]) (same_new (o := .tup [.str ("" : Str), .str ("" : Str)]) (Same.refl H') nb) nc
        have dp := (hdd.same sm).same s2
        have hD2 := s2 _ _ hD
        have hd2 := hd.same s2
        have lacc : acc.length = L'.length := by rw [hd.length, List.length_map]
        refine ⟨plD p, plD doneP, dp.dp, (pl_mk (p := doneP) upd_same (by rw [hb, S_nil])).dp, shaped_pl hv okp, shaped_done, _, rfl, ifB (fun _ => ?_) (fun _ => ?_)⟩
        · refine ⟨_, rfl, acc, hD2, by rw [lacc]; exact line_lt (by omega), acc ++ [y], L' ++ [p], same_set (sm.trans s2) nD, upd_same, ?_, by rw [List.length_append]; simp; omega, fun r hr => ?_⟩
          · rw [List.map_append]
            exact (hd2.snoc dp).to (ts_lst hD2)
          · rcases List.mem_append.mp hr with hr | hr
            · exact hok r hr
            · have e : r = p := by simpa using hr
              rw [e]
              exact okp
        · exact ⟨acc, L', sm.trans s2, hD2, hd2, by omega, hok⟩
      · have m10 := m9.same sm
        refine ⟨_, rfl, _, rfl, _, rfl, v, M, rfl, m10, fun Ls hso nds ls ss H11 s11 nls hls hds => ⟨Nat.zero_le _, fun le nle => ⟨line_big (by show 4 ≤ 16000000; decide), fun l4 nl4 => ⟨l4, rfl, ⟨_, .of upd_same⟩, fun D2 nD2 => ?_⟩⟩⟩⟩
        have oks : ∀ p ∈ Ls, PlOk M p := fun p hp => by
          obtain ⟨st, l1, l2, h1, h2⟩ := hso p hp
          exact start_ok hv (reach_lt hv h1) h2
        have fews := few hv nds oks
        have s12 := same_new (o := .lst []) (Same.refl H11) nle
        have s13 := same_new (o := .lst [.ref lm, .ref D, .ref ls, .ref le]) (Same.refl (upd H11 le (.lst []))) nl4
        have s14 := s12.trans s13
        obtain ⟨H12, eH12⟩ : ∃ H12, H12 = upd (upd H11 le (.lst [])) l4 (.lst [.ref lm, .ref D, .ref ls, .ref le]) := ⟨_, rfl⟩
        have hle : H12 le = some (.lst []) := by rw [eH12]; exact s13 _ _ upd_same
        have hl4 : H12 l4 = some (.lst [.ref lm, .ref D, .ref ls, .ref le]) := by rw [eH12, upd_same]
        rw [← eH12] at s14 nD2 ⊢
        have given : ∀ y ∈ ([.ref lm, .ref D, .ref ls, .ref le] : List L2.V), ∃ (l' : Addr) (L' : List Pl), y = .ref l' ∧ LAt H12 l' L' ∧ L'.length ≤ 100000 ∧ ∀ p ∈ L', PlOk M p := fun y hy => by
          rcases List.mem_cons.mp hy with rfl | hy
          · exact ⟨lm, Lm, rfl, ⟨ms, s14 _ _ (s11 _ _ (sm _ _ hlm)), ((hdm.same sm).same s11).same s14⟩, by omega, okm⟩
          rcases List.mem_cons.mp hy with rfl | hy
          · exact ⟨D, L', rfl, ⟨acc, s14 _ _ (s11 _ _ hD), (hd.same s11).same s14⟩, by omega, hok⟩
          rcases List.mem_cons.mp hy with rfl | hy
          · exact ⟨ls, Ls, rfl, ⟨ss, s14 _ _ hls, hds.same s14⟩, by omega, oks⟩
          · have e : y = .ref le := by simpa using hy
            subst e
            exact ⟨le, [], rfl, ⟨[], hle, .nil⟩, by simp, fun p hp => absurd hp List.not_mem_nil⟩
        have m12 := (m10.same s11).same s14
        refine lc_it (walk_list (xs := [.ref lm, .ref D, .ref ls, .ref le])) (LcP (fun acc _ => AllN acc) H12 D2) (lcp_zero nD2 rfl) (fun i H' _ ⟨_, sm, _⟩ => .of (sm _ _ hl4)) (fun i y H4' H' hi ⟨acc2, sm2, hD2, hla2, ra2⟩ hy => ?_) (fun H13 ⟨acc2, sm2, hD2, hla2, ra2⟩ => ?_)
        · obtain ⟨rfl, hy⟩ := hy
          obtain ⟨l', L'', rfl, ⟨ys, hys, dys⟩, hlen2, hok2⟩ := given y (List.mem_of_getElem? hy)
          have hi : i < 4 := hi
          refine ⟨rfl, yes ⟨_, rfl, _, rfl, v, M, l', L'', rfl, m12.same sm2, ⟨ys, sm2 _ _ hys, dys.same sm2⟩, hlen2, hok2, fun b hb H14 s15 => ?_⟩⟩
          refine lcp_step nD2 (sm2.trans s15) (s15 _ _ hD2) hla2 (by omega) (allN_snoc ra2 ?_)
          cases b with
          | false => rfl
          | true => exact (amb_no hv (hb.mp rfl) am2).elim
        · have ra2 : acc2 = (List.replicate acc2.length false).map V.bl := ra2
          refine ⟨D2, List.replicate acc2.length false, rfl, .of (by rw [← ra2]; exact hD2), _, rfl, ?_⟩
          rw [allN_any]
          exact q H13
end
end K67



/-! K6: the head. Written by gen.py. -/
namespace K67
open PySem PySem.Spec PyProof.Rows L2
def dd_check_size : He.DefD := ⟨("check_size", none), "check_size", "check_size", defArgs s_check_size, defBody s_check_size, defScope s_check_size, [], []⟩
def dd_has_letters : He.DefD := ⟨("has_letters", none), "has_letters", "has_letters", defArgs s_has_letters, defBody s_has_letters, defScope s_has_letters, [], []⟩
def dd_is_word : He.DefD := ⟨("is_word", none), "is_word", "is_word", defArgs s_is_word, defBody s_is_word, defScope s_is_word, [], []⟩
def dd_check_word : He.DefD := ⟨("check_word", none), "check_word", "check_word", defArgs s_check_word, defBody s_check_word, defScope s_check_word, [], []⟩
def dd_key_of : He.DefD := ⟨("key_of", none), "key_of", "key_of", defArgs s_key_of, defBody s_key_of, defScope s_key_of, [], []⟩
def dd_common : He.DefD := ⟨("common", none), "common", "common", defArgs s_common, defBody s_common, defScope s_common, [], []⟩
def dd_is_string : He.DefD := ⟨("is_string", none), "is_string", "is_string", defArgs s_is_string, defBody s_is_string, defScope s_is_string, [], []⟩
def dd_is_row : He.DefD := ⟨("is_row", none), "is_row", "is_row", defArgs s_is_row, defBody s_is_row, defScope s_is_row, [], []⟩
def dd_is_formed : He.DefD := ⟨("is_formed", none), "is_formed", "is_formed", defArgs s_is_formed, defBody s_is_formed, defScope s_is_formed, [], []⟩
def dd_is_wide : He.DefD := ⟨("is_wide", none), "is_wide", "is_wide", defArgs s_is_wide, defBody s_is_wide, defScope s_is_wide, [], []⟩
def dd_check_wide : He.DefD := ⟨("check_wide", none), "check_wide", "check_wide", defArgs s_check_wide, defBody s_check_wide, defScope s_check_wide, [], []⟩
def dd_walked : He.DefD := ⟨("walked", none), "walked", "walked", defArgs s_walked, defBody s_walked, defScope s_walked, [], []⟩
def dd_changed : He.DefD := ⟨("changed", none), "changed", "changed", defArgs s_changed, defBody s_changed, defScope s_changed, [], []⟩
def dd_check_call : He.DefD := ⟨("check_call", none), "check_call", "check_call", defArgs s_check_call, defBody s_check_call, defScope s_check_call, [], []⟩
def dd_form : He.DefD := ⟨("form", none), "form", "form", defArgs s_form, defBody s_form, defScope s_form, [], []⟩
def dd_reached_states : He.DefD := ⟨("reached_states", none), "reached_states", "reached_states", defArgs s_reached_states, defBody s_reached_states, defScope s_reached_states, [], []⟩
def dd_rest_of : He.DefD := ⟨("rest_of", none), "rest_of", "rest_of", defArgs s_rest_of, defBody s_rest_of, defScope s_rest_of, [], []⟩
def dd_moves : He.DefD := ⟨("moves", none), "moves", "moves", defArgs s_moves, defBody s_moves, defScope s_moves, [], []⟩
def dd_is_done : He.DefD := ⟨("is_done", none), "is_done", "is_done", defArgs s_is_done, defBody s_is_done, defScope s_is_done, [], []⟩
def dd_starting : He.DefD := ⟨("starting", none), "starting", "starting", defArgs s_starting, defBody s_starting, defScope s_starting, [], []⟩
def dd_going : He.DefD := ⟨("going", none), "going", "going", defArgs s_going, defBody s_going, defScope s_going, [], []⟩
def dd_S_init : He.DefD := ⟨("Search", some "__init__"), "__init__", "Search.__init__", defArgs s_S_init, defBody s_S_init, defScope s_S_init, [], []⟩
def dd_S_take : He.DefD := ⟨("Search", some "take"), "take", "Search.take", defArgs s_S_take, defBody s_S_take, defScope s_S_take, [], []⟩
def dd_S_look : He.DefD := ⟨("Search", some "look"), "look", "Search.look", defArgs s_S_look, defBody s_S_look, defScope s_S_look, [], []⟩
def dd_starts : He.DefD := ⟨("starts", none), "starts", "starts", defArgs s_starts, defBody s_starts, defScope s_starts, [], []⟩
def dd_check_place : He.DefD := ⟨("check_place", none), "check_place", "check_place", defArgs s_check_place, defBody s_check_place, defScope s_check_place, [], []⟩
def dd_following : He.DefD := ⟨("following", none), "following", "following", defArgs s_following, defBody s_following, defScope s_following, [], []⟩
def dd_closed_places : He.DefD := ⟨("closed_places", none), "closed_places", "closed_places", defArgs s_closed_places, defBody s_closed_places, defScope s_closed_places, [], []⟩
def dd_is_closed_list : He.DefD := ⟨("is_closed_list", none), "is_closed_list", "is_closed_list", defArgs s_is_closed_list, defBody s_is_closed_list, defScope s_is_closed_list, [], []⟩
def dd_first_word_to : He.DefD := ⟨("first_word_to", none), "first_word_to", "first_word_to", defArgs s_first_word_to, defBody s_first_word_to, defScope s_first_word_to, [], []⟩
def dd_two_words : He.DefD := ⟨("two_words", none), "two_words", "two_words", defArgs s_two_words, defBody s_two_words, defScope s_two_words, [], []⟩
def dd_law_number : He.DefD := ⟨("_law_number", none), "_law_number", "_law_number", defArgs s_law_number, defBody s_law_number, defScope s_law_number, [], []⟩
def dd_law_draws : He.DefD := ⟨("_law_draws", none), "_law_draws", "_law_draws", defArgs s_law_draws, defBody s_law_draws, defScope s_law_draws, [], []⟩
def dd_law_next : He.DefD := ⟨("_law_next", none), "_law_next", "_law_next", defArgs s_law_next, defBody s_law_next, defScope s_law_next, [], []⟩
def dd_law_text : He.DefD := ⟨("_law_text", none), "_law_text", "_law_text", defArgs s_law_text, defBody s_law_text, defScope s_law_text, [], []⟩
def dd_law_walked : He.DefD := ⟨("_law_walked", none), "_law_walked", "_law_walked", defArgs s_law_walked, defBody s_law_walked, defScope s_law_walked, [], []⟩
def dd_law_form : He.DefD := ⟨("_law_form", none), "_law_form", "_law_form", defArgs s_law_form, defBody s_law_form, defScope s_law_form, [], []⟩
def dd_law_out : He.DefD := ⟨("_law_out", none), "_law_out", "_law_out", defArgs s_law_out, defBody s_law_out, defScope s_law_out, [], []⟩
def dd_law_machine : He.DefD := ⟨("_law_machine", none), "_law_machine", "_law_machine", defArgs s_law_machine, defBody s_law_machine, defScope s_law_machine, [], []⟩
def dd_law_drawn : He.DefD := ⟨("_law_drawn", none), "_law_drawn", "_law_drawn", defArgs s_law_drawn, defBody s_law_drawn, defScope s_law_drawn, [], []⟩
def dd_law_rest : He.DefD := ⟨("_law_rest", none), "_law_rest", "_law_rest", defArgs s_law_rest, defBody s_law_rest, defScope s_law_rest, [], []⟩
def dd_law_moves : He.DefD := ⟨("_law_moves", none), "_law_moves", "_law_moves", defArgs s_law_moves, defBody s_law_moves, defScope s_law_moves, [], []⟩
def dd_law_order : He.DefD := ⟨("_law_order", none), "_law_order", "_law_order", defArgs s_law_order, defBody s_law_order, defScope s_law_order, [], []⟩
def dd_law_starts : He.DefD := ⟨("_law_starts", none), "_law_starts", "_law_starts", defArgs s_law_starts, defBody s_law_starts, defScope s_law_starts, [], []⟩
def dd_law_following : He.DefD := ⟨("_law_following", none), "_law_following", "_law_following", defArgs s_law_following, defBody s_law_following, defScope s_law_following, [], []⟩
def dd_law_words : He.DefD := ⟨("_law_words", none), "_law_words", "_law_words", defArgs s_law_words, defBody s_law_words, defScope s_law_words, [], []⟩
def dd_law_is_closed : He.DefD := ⟨("_law_is_closed", none), "_law_is_closed", "_law_is_closed", defArgs s_law_is_closed, defBody s_law_is_closed, defScope s_law_is_closed, [], []⟩
def dd_law_met : He.DefD := ⟨("_law_met", none), "_law_met", "_law_met", defArgs s_law_met, defBody s_law_met, defScope s_law_met, [], []⟩
def dd_law : He.DefD := ⟨("law", none), "law", "law", defArgs s_law, defBody s_law, defScope s_law, [], []⟩
def fn0 : List He.DefD := [dd_check_size, dd_has_letters, dd_is_word, dd_check_word, dd_key_of, dd_common, dd_is_string, dd_is_row, dd_is_formed, dd_is_wide, dd_check_wide, dd_walked, dd_changed, dd_check_call, dd_form, dd_reached_states, dd_rest_of, dd_moves, dd_is_done, dd_starting]
def fn1 : List He.DefD := [dd_going, dd_S_init, dd_S_take, dd_S_look, dd_starts, dd_check_place, dd_following, dd_closed_places, dd_is_closed_list, dd_first_word_to, dd_two_words, dd_law_number, dd_law_draws, dd_law_next, dd_law_text, dd_law_walked, dd_law_form, dd_law_out, dd_law_machine, dd_law_drawn]
def fn2 : List He.DefD := [dd_law_rest, dd_law_moves, dd_law_order, dd_law_starts, dd_law_following, dd_law_words, dd_law_is_closed, dd_law_met, dd_law]
def fn : List He.DefD := fn0 ++ fn1 ++ fn2
def fa0 : List He.Fa := [.glo "check_size", .glo "has_letters", .glo "is_word", .glo "check_word", .glo "key_of", .glo "common", .glo "is_string", .glo "is_row", .glo "is_formed", .glo "is_wide", .glo "check_wide", .glo "walked", .glo "changed", .glo "check_call", .glo "form", .glo "reached_states", .glo "rest_of", .glo "moves", .glo "is_done", .glo "starting"]
def fa1 : List He.Fa := [.glo "going", .glo "starts", .glo "check_place", .glo "following", .glo "closed_places", .glo "is_closed_list", .glo "first_word_to", .glo "two_words", .glo "_law_number", .glo "_law_draws", .glo "_law_next", .glo "_law_text", .glo "_law_walked", .glo "_law_form", .glo "_law_out", .glo "_law_machine", .glo "_law_drawn", .glo "_law_rest", .glo "_law_moves", .glo "_law_order"]
def fa2 : List He.Fa := [.glo "_law_starts", .glo "_law_following", .glo "_law_words", .glo "_law_is_closed", .glo "_law_met", .glo "law", .free "all", .free "any", .free "len", .free "min", .free "int", .free "tuple", .free "list", .free "zip", .free "range", .free "enumerate", .free "sorted", .str "LETTERS" "abcdef", .int "MOST_LETTERS" (60), .int "MOST_WIDE" (2000)]
def fa3 : List He.Fa := [.int "LONGEST" (60), .int "MOST_PLACES" (4000), .int "END" (-1), .glo "Search", .cls "Search", .mkr "Search", .meth "Search" "take", .meth "Search" "look", .noat "Search" "machine", .noat "Search" "places", .noat "Search" "words", .noat "Search" "done"]
def fa : List He.Fa := fa0 ++ fa1 ++ fa2 ++ fa3
def loose0 : List PySem.Str := ["ShiftError", "NotWord", "NotMachine", "BadNumber", "TooLarge", "LETTERS", "MOST_LETTERS", "check_size", "has_letters", "is_word", "check_word", "key_of", "common", "MOST_WIDE", "LONGEST", "is_string", "is_row", "is_formed", "is_wide", "check_wide", "walked", "changed", "check_call", "form", "reached_states", "rest_of", "MOST_PLACES", "END", "moves", "is_done"]
def loose1 : List PySem.Str := ["starting", "going", "Search", "starts", "check_place", "following", "closed_places", "is_closed_list", "first_word_to", "two_words", "_law_number", "_law_draws", "_law_next", "_law_text", "_law_walked", "_law_form", "_law_out", "_law_machine", "_law_drawn", "_law_rest", "_law_moves", "_law_order", "_law_starts", "_law_following", "_law_places", "_law_words", "_law_is_closed", "_law_met"]
def loose : List PySem.Str := loose0 ++ loose1
abbrev R : PySem.W.OpenRow := PySem.W.OpenLaw.row PySem.Challenge.rw_soundturns_k67_whole_a_closed_list_or_tw
abbrev hk : PySem.W.Hook := He.hookD 5 fa fn
def ob (s : PySem.W.SharedT) : He.AlD := He.obsDG 5 fa fn (HandSHeadRun.getT s)
theorem ob_eq (s : PySem.W.SharedT) : ob s = hk.obs s.abs := He.obsDG_eq (HandSHeadRun.getT_eq s)
theorem run (w : World) : HandSHeadRun.RunEq R (PySem.W.view R.prog [65]) hk ob 4000 loose w := by
  intro os
  kernel_rfl
theorem facts {P : Program} {w : World} {K : PySem.W.Frag} {h : Heap} {mg : Str → Option Value} {f : Addr} (X : K.In h) (G : h.Ns mainGlobals mg) (hfa : mg ("law" : Str) = some (.ref f)) (c : He.SaysD fa fn K) :
    ∃ fd : FuncData, (∀ (s : Shared) (v : Value), BindsTo s fd ⟨[v], []⟩ [("_law_script", v)]) ∧ ∀ base : Heap, K.In base → base.Ns mainGlobals mg → FnOk P w K mg base CX0 9 f fd ["_law_script"] (sp_law K) := by
  obtain ⟨d0, F0⟩ := c.def_ 0 (d := dd_check_size) rfl
  obtain ⟨d1, F1⟩ := c.def_ 1 (d := dd_has_letters) rfl
  obtain ⟨d2, F2⟩ := c.def_ 2 (d := dd_is_word) rfl
  obtain ⟨d3, F3⟩ := c.def_ 3 (d := dd_check_word) rfl
  obtain ⟨d4, F4⟩ := c.def_ 4 (d := dd_key_of) rfl
  obtain ⟨d5, F5⟩ := c.def_ 5 (d := dd_common) rfl
  obtain ⟨d6, F6⟩ := c.def_ 6 (d := dd_is_string) rfl
  obtain ⟨d7, F7⟩ := c.def_ 7 (d := dd_is_row) rfl
  obtain ⟨d8, F8⟩ := c.def_ 8 (d := dd_is_formed) rfl
  obtain ⟨d9, F9⟩ := c.def_ 9 (d := dd_is_wide) rfl
  obtain ⟨d10, F10⟩ := c.def_ 10 (d := dd_check_wide) rfl
  obtain ⟨d11, F11⟩ := c.def_ 11 (d := dd_walked) rfl
  obtain ⟨d12, F12⟩ := c.def_ 12 (d := dd_changed) rfl
  obtain ⟨d13, F13⟩ := c.def_ 13 (d := dd_check_call) rfl
  obtain ⟨d14, F14⟩ := c.def_ 14 (d := dd_form) rfl
  obtain ⟨d15, F15⟩ := c.def_ 15 (d := dd_reached_states) rfl
  obtain ⟨d16, F16⟩ := c.def_ 16 (d := dd_rest_of) rfl
  obtain ⟨d17, F17⟩ := c.def_ 17 (d := dd_moves) rfl
  obtain ⟨d18, F18⟩ := c.def_ 18 (d := dd_is_done) rfl
  obtain ⟨d19, F19⟩ := c.def_ 19 (d := dd_starting) rfl
  obtain ⟨d20, F20⟩ := c.def_ 20 (d := dd_going) rfl
  obtain ⟨d21, F21⟩ := c.def_ 21 (d := dd_S_init) rfl
  obtain ⟨d22, F22⟩ := c.def_ 22 (d := dd_S_take) rfl
  obtain ⟨d23, F23⟩ := c.def_ 23 (d := dd_S_look) rfl
  obtain ⟨d24, F24⟩ := c.def_ 24 (d := dd_starts) rfl
  obtain ⟨d25, F25⟩ := c.def_ 25 (d := dd_check_place) rfl
  obtain ⟨d26, F26⟩ := c.def_ 26 (d := dd_following) rfl
  obtain ⟨d27, F27⟩ := c.def_ 27 (d := dd_closed_places) rfl
  obtain ⟨d28, F28⟩ := c.def_ 28 (d := dd_is_closed_list) rfl
  obtain ⟨d29, F29⟩ := c.def_ 29 (d := dd_first_word_to) rfl
  obtain ⟨d30, F30⟩ := c.def_ 30 (d := dd_two_words) rfl
  obtain ⟨d31, F31⟩ := c.def_ 31 (d := dd_law_number) rfl
  obtain ⟨d32, F32⟩ := c.def_ 32 (d := dd_law_draws) rfl
  obtain ⟨d33, F33⟩ := c.def_ 33 (d := dd_law_next) rfl
  obtain ⟨d34, F34⟩ := c.def_ 34 (d := dd_law_text) rfl
  obtain ⟨d35, F35⟩ := c.def_ 35 (d := dd_law_walked) rfl
  obtain ⟨d36, F36⟩ := c.def_ 36 (d := dd_law_form) rfl
  obtain ⟨d37, F37⟩ := c.def_ 37 (d := dd_law_out) rfl
  obtain ⟨d38, F38⟩ := c.def_ 38 (d := dd_law_machine) rfl
  obtain ⟨d39, F39⟩ := c.def_ 39 (d := dd_law_drawn) rfl
  obtain ⟨d40, F40⟩ := c.def_ 40 (d := dd_law_rest) rfl
  obtain ⟨d41, F41⟩ := c.def_ 41 (d := dd_law_moves) rfl
  obtain ⟨d42, F42⟩ := c.def_ 42 (d := dd_law_order) rfl
  obtain ⟨d43, F43⟩ := c.def_ 43 (d := dd_law_starts) rfl
  obtain ⟨d44, F44⟩ := c.def_ 44 (d := dd_law_following) rfl
  obtain ⟨d45, F45⟩ := c.def_ 45 (d := dd_law_words) rfl
  obtain ⟨d46, F46⟩ := c.def_ 46 (d := dd_law_is_closed) rfl
  obtain ⟨d47, F47⟩ := c.def_ 47 (d := dd_law_met) rfl
  obtain ⟨d48, F48⟩ := c.def_ 48 (d := dd_law) rfl
  have T : ∃ T : Tx K mg, T.f_law = He.ga K "law" := ⟨{
    f_check_size := He.ga K "check_size"
    d_check_size := d0
    F_check_size := F0
    g_check_size := He.glo_ok X G (c.fact 0 (f := .glo "check_size") rfl)
    f_has_letters := He.ga K "has_letters"
    d_has_letters := d1
    F_has_letters := F1
    g_has_letters := He.glo_ok X G (c.fact 1 (f := .glo "has_letters") rfl)
    f_is_word := He.ga K "is_word"
    d_is_word := d2
    F_is_word := F2
    g_is_word := He.glo_ok X G (c.fact 2 (f := .glo "is_word") rfl)
    f_check_word := He.ga K "check_word"
    d_check_word := d3
    F_check_word := F3
    g_check_word := He.glo_ok X G (c.fact 3 (f := .glo "check_word") rfl)
    f_key_of := He.ga K "key_of"
    d_key_of := d4
    F_key_of := F4
    g_key_of := He.glo_ok X G (c.fact 4 (f := .glo "key_of") rfl)
    f_common := He.ga K "common"
    d_common := d5
    F_common := F5
    g_common := He.glo_ok X G (c.fact 5 (f := .glo "common") rfl)
    f_is_string := He.ga K "is_string"
    d_is_string := d6
    F_is_string := F6
    g_is_string := He.glo_ok X G (c.fact 6 (f := .glo "is_string") rfl)
    f_is_row := He.ga K "is_row"
    d_is_row := d7
    F_is_row := F7
    g_is_row := He.glo_ok X G (c.fact 7 (f := .glo "is_row") rfl)
    f_is_formed := He.ga K "is_formed"
    d_is_formed := d8
    F_is_formed := F8
    g_is_formed := He.glo_ok X G (c.fact 8 (f := .glo "is_formed") rfl)
    f_is_wide := He.ga K "is_wide"
    d_is_wide := d9
    F_is_wide := F9
    g_is_wide := He.glo_ok X G (c.fact 9 (f := .glo "is_wide") rfl)
    f_check_wide := He.ga K "check_wide"
    d_check_wide := d10
    F_check_wide := F10
    g_check_wide := He.glo_ok X G (c.fact 10 (f := .glo "check_wide") rfl)
    f_walked := He.ga K "walked"
    d_walked := d11
    F_walked := F11
    g_walked := He.glo_ok X G (c.fact 11 (f := .glo "walked") rfl)
    f_changed := He.ga K "changed"
    d_changed := d12
    F_changed := F12
    g_changed := He.glo_ok X G (c.fact 12 (f := .glo "changed") rfl)
    f_check_call := He.ga K "check_call"
    d_check_call := d13
    F_check_call := F13
    g_check_call := He.glo_ok X G (c.fact 13 (f := .glo "check_call") rfl)
    f_form := He.ga K "form"
    d_form := d14
    F_form := F14
    g_form := He.glo_ok X G (c.fact 14 (f := .glo "form") rfl)
    f_reached_states := He.ga K "reached_states"
    d_reached_states := d15
    F_reached_states := F15
    g_reached_states := He.glo_ok X G (c.fact 15 (f := .glo "reached_states") rfl)
    f_rest_of := He.ga K "rest_of"
    d_rest_of := d16
    F_rest_of := F16
    g_rest_of := He.glo_ok X G (c.fact 16 (f := .glo "rest_of") rfl)
    f_moves := He.ga K "moves"
    d_moves := d17
    F_moves := F17
    g_moves := He.glo_ok X G (c.fact 17 (f := .glo "moves") rfl)
    f_is_done := He.ga K "is_done"
    d_is_done := d18
    F_is_done := F18
    g_is_done := He.glo_ok X G (c.fact 18 (f := .glo "is_done") rfl)
    f_starting := He.ga K "starting"
    d_starting := d19
    F_starting := F19
    g_starting := He.glo_ok X G (c.fact 19 (f := .glo "starting") rfl)
    f_going := He.ga K "going"
    d_going := d20
    F_going := F20
    g_going := He.glo_ok X G (c.fact 20 (f := .glo "going") rfl)
    f_S_init := He.ma K (He.ga K "Search") "__init__"
    d_S_init := d21
    F_S_init := F21
    f_S_take := He.ma K (He.ga K "Search") "take"
    d_S_take := d22
    F_S_take := F22
    f_S_look := He.ma K (He.ga K "Search") "look"
    d_S_look := d23
    F_S_look := F23
    f_starts := He.ga K "starts"
    d_starts := d24
    F_starts := F24
    g_starts := He.glo_ok X G (c.fact 21 (f := .glo "starts") rfl)
    f_check_place := He.ga K "check_place"
    d_check_place := d25
    F_check_place := F25
    g_check_place := He.glo_ok X G (c.fact 22 (f := .glo "check_place") rfl)
    f_following := He.ga K "following"
    d_following := d26
    F_following := F26
    g_following := He.glo_ok X G (c.fact 23 (f := .glo "following") rfl)
    f_closed_places := He.ga K "closed_places"
    d_closed_places := d27
    F_closed_places := F27
    g_closed_places := He.glo_ok X G (c.fact 24 (f := .glo "closed_places") rfl)
    f_is_closed_list := He.ga K "is_closed_list"
    d_is_closed_list := d28
    F_is_closed_list := F28
    g_is_closed_list := He.glo_ok X G (c.fact 25 (f := .glo "is_closed_list") rfl)
    f_first_word_to := He.ga K "first_word_to"
    d_first_word_to := d29
    F_first_word_to := F29
    g_first_word_to := He.glo_ok X G (c.fact 26 (f := .glo "first_word_to") rfl)
    f_two_words := He.ga K "two_words"
    d_two_words := d30
    F_two_words := F30
    g_two_words := He.glo_ok X G (c.fact 27 (f := .glo "two_words") rfl)
    f_law_number := He.ga K "_law_number"
    d_law_number := d31
    F_law_number := F31
    g_law_number := He.glo_ok X G (c.fact 28 (f := .glo "_law_number") rfl)
    f_law_draws := He.ga K "_law_draws"
    d_law_draws := d32
    F_law_draws := F32
    g_law_draws := He.glo_ok X G (c.fact 29 (f := .glo "_law_draws") rfl)
    f_law_next := He.ga K "_law_next"
    d_law_next := d33
    F_law_next := F33
    g_law_next := He.glo_ok X G (c.fact 30 (f := .glo "_law_next") rfl)
    f_law_text := He.ga K "_law_text"
    d_law_text := d34
    F_law_text := F34
    g_law_text := He.glo_ok X G (c.fact 31 (f := .glo "_law_text") rfl)
    f_law_walked := He.ga K "_law_walked"
    d_law_walked := d35
    F_law_walked := F35
    g_law_walked := He.glo_ok X G (c.fact 32 (f := .glo "_law_walked") rfl)
    f_law_form := He.ga K "_law_form"
    d_law_form := d36
    F_law_form := F36
    g_law_form := He.glo_ok X G (c.fact 33 (f := .glo "_law_form") rfl)
    f_law_out := He.ga K "_law_out"
    d_law_out := d37
    F_law_out := F37
    g_law_out := He.glo_ok X G (c.fact 34 (f := .glo "_law_out") rfl)
    f_law_machine := He.ga K "_law_machine"
    d_law_machine := d38
    F_law_machine := F38
    g_law_machine := He.glo_ok X G (c.fact 35 (f := .glo "_law_machine") rfl)
    f_law_drawn := He.ga K "_law_drawn"
    d_law_drawn := d39
    F_law_drawn := F39
    g_law_drawn := He.glo_ok X G (c.fact 36 (f := .glo "_law_drawn") rfl)
    f_law_rest := He.ga K "_law_rest"
    d_law_rest := d40
    F_law_rest := F40
    g_law_rest := He.glo_ok X G (c.fact 37 (f := .glo "_law_rest") rfl)
    f_law_moves := He.ga K "_law_moves"
    d_law_moves := d41
    F_law_moves := F41
    g_law_moves := He.glo_ok X G (c.fact 38 (f := .glo "_law_moves") rfl)
    f_law_order := He.ga K "_law_order"
    d_law_order := d42
    F_law_order := F42
    g_law_order := He.glo_ok X G (c.fact 39 (f := .glo "_law_order") rfl)
    f_law_starts := He.ga K "_law_starts"
    d_law_starts := d43
    F_law_starts := F43
    g_law_starts := He.glo_ok X G (c.fact 40 (f := .glo "_law_starts") rfl)
    f_law_following := He.ga K "_law_following"
    d_law_following := d44
    F_law_following := F44
    g_law_following := He.glo_ok X G (c.fact 41 (f := .glo "_law_following") rfl)
    f_law_words := He.ga K "_law_words"
    d_law_words := d45
    F_law_words := F45
    g_law_words := He.glo_ok X G (c.fact 42 (f := .glo "_law_words") rfl)
    f_law_is_closed := He.ga K "_law_is_closed"
    d_law_is_closed := d46
    F_law_is_closed := F46
    g_law_is_closed := He.glo_ok X G (c.fact 43 (f := .glo "_law_is_closed") rfl)
    f_law_met := He.ga K "_law_met"
    d_law_met := d47
    F_law_met := F47
    g_law_met := He.glo_ok X G (c.fact 44 (f := .glo "_law_met") rfl)
    f_law := He.ga K "law"
    d_law := d48
    F_law := F48
    g_law := He.glo_ok X G (c.fact 45 (f := .glo "law") rfl)
    n_all := He.free_ok X G (c.fact 46 (f := .free "all") rfl)
    n_any := He.free_ok X G (c.fact 47 (f := .free "any") rfl)
    n_len := He.free_ok X G (c.fact 48 (f := .free "len") rfl)
    n_min := He.free_ok X G (c.fact 49 (f := .free "min") rfl)
    n_int := He.free_ok X G (c.fact 50 (f := .free "int") rfl)
    n_tuple := He.free_ok X G (c.fact 51 (f := .free "tuple") rfl)
    n_list := He.free_ok X G (c.fact 52 (f := .free "list") rfl)
    n_zip := He.free_ok X G (c.fact 53 (f := .free "zip") rfl)
    n_range := He.free_ok X G (c.fact 54 (f := .free "range") rfl)
    n_enumerate := He.free_ok X G (c.fact 55 (f := .free "enumerate") rfl)
    n_sorted := He.free_ok X G (c.fact 56 (f := .free "sorted") rfl)
    LETTERS := He.str_ok X G (c.fact 57 (f := .str "LETTERS" "abcdef") rfl)
    MOST_LETTERS := He.int_ok X G (c.fact 58 (f := .int "MOST_LETTERS" (60)) rfl)
    MOST_WIDE := He.int_ok X G (c.fact 59 (f := .int "MOST_WIDE" (2000)) rfl)
    LONGEST := He.int_ok X G (c.fact 60 (f := .int "LONGEST" (60)) rfl)
    MOST_PLACES := He.int_ok X G (c.fact 61 (f := .int "MOST_PLACES" (4000)) rfl)
    END := He.int_ok X G (c.fact 62 (f := .int "END" (-1)) rfl)
    C := He.ga K "Search"
    g_Search := He.glo_ok X G (c.fact 63 (f := .glo "Search") rfl)
    cl := He.cls_ok (c.fact 64 (f := .cls "Search") rfl)
    mkS := He.mkr_ok (c.fact 65 (f := .mkr "Search") rfl)
    m_take := He.meth_ok (c.fact 66 (f := .meth "Search" "take") rfl)
    m_look := He.meth_ok (c.fact 67 (f := .meth "Search" "look") rfl)
    a_machine := He.noat_ok (c.fact 68 (f := .noat "Search" "machine") rfl)
    a_places := He.noat_ok (c.fact 69 (f := .noat "Search" "places") rfl)
    a_words := He.noat_ok (c.fact 70 (f := .noat "Search" "words") rfl)
    a_done := He.noat_ok (c.fact 71 (f := .noat "Search" "done") rfl)
  }, rfl⟩
  obtain ⟨T, eT⟩ := T
  have e := hfa.symm.trans T.g_law
  have ef : f = T.f_law := Value.ref.inj (Option.some.inj e)
  subst ef
  have b := FunD.bindsA (ps := ["_law_script"]) T.F_law fun _ _ _ _ _ _ us hl => match us, hl with | [_], _ => rfl
  exact ⟨T.d_law, fun s v => b s [v] rfl, fun base _ _ => ok_law T⟩
end K67
open PySem PySem.W PySem.Calls PyProof.Rows
theorem PySem.Challenge.cw_soundturns_k67_whole_a_closed_list_or_tw_holds : PySem.Challenge.rw_soundturns_k67_whole_a_closed_list_or_tw.Holds := by
  w_on; o_law
  refine HandSHeadRun.head_any (r := K67.R) (q := view K67.R.prog [65]) (H := K67.hk) (ob := K67.ob) (M := 4000) (loose := K67.loose) (d := HandSHeadRun.topDef K67.R.prog 65) (kwd := []) K67.ob_eq
    (by kernel_rfl) (fun s => by kernel_rfl) K67.run (by kernel_rfl) (by kernel_rfl) (by kernel_rfl) (by rfl) (by first | assumption | decide +kernel) (by decide +kernel) ⟨rfl, rfl, rfl, rfl, rfl, by decide +kernel⟩ ?hw ?hc
  case hw => w_witness2
  case hc =>
    refine L2.walk_ofE (l := PySem.Challenge.rw_soundturns_k67_whole_a_closed_list_or_tw) (n := 63) (k := 9) (x := "_law_script") (CX := L2.CX0) rfl (by decide) (by kernel_rfl) ⟨rfl, by decide, by decide⟩ ?F (fun _ _ _ _ z => z)
    intro w mg fa h Y G hmg0
    obtain ⟨K, KX, c⟩ := Y
    have hmg : mg ("law" : PySem.Str) = some (.ref fa) := by
      have e : (HandSHeadRun.topDef K67.R.prog 65).name = ("law" : PySem.Str) := by kernel_rfl
      rw [← e]
      exact hmg0
    obtain ⟨fd, hb, hF⟩ := K67.facts (P := (PySem.Challenge.rw_soundturns_k67_whole_a_closed_list_or_tw).prog) (w := w) KX G hmg c
    exact ⟨K, fd, K67.sp_law K, KX, hb, fun H a ns hl hlen hS => ⟨a, ns, rfl, hS, hl, fun _ => rfl⟩, hF⟩
