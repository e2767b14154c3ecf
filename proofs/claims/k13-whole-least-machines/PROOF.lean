import PyProof.Rows.All
import Wide.All
import OpenK.AllK
import Wide.FinOn
import KE.KStateDown
import HandS.ForMost
import HandS.WordsExc
import HandS.Defaults
import HandS.Head0
import HandS.Head1
import HandS.Head2
import HandS.HeadEnd
import HandS.HeadHook1
import HandS.HeadHook2
import KE.KeyNested
import KE.KDictKeyed
import PyProof.Rows.TupDisplay
import HandS.TupLen
import HandS.SetKeys
import HandS.IsInst
import HandS.Walk
import HandS.Zip
import HandS.TupAny
import HandS.TupMul
import HandS.Style
import HandS.Deep
import HandS.Wide
import HandS.Evl
import KE.GoesMore
import KE.GoesEnum
import HandS.TryOnly
import HandS.Conv
import HandS.TupSets
import HandS.SetBool
import KE.SortData
import PySem.Challenge.RW_lateedges_k13_whole_least_machines
set_option Elab.async false
set_option linter.all false
set_option maxRecDepth 100000
set_option maxHeartbeats 0
/-! K13Math: machines, Moore's refinement, the least machine, the least parting word. Core Lean alone. -/
namespace KM
/-! ### pigeons -/
theorem pg1 : ∀ (A B : List Nat), A.Nodup → (∀ x ∈ A, x ∈ B) → A.length ≤ B.length
  | [], _, _, _ => Nat.zero_le _
  | x :: A, B, hn, hs => by
    have hx : x ∈ B := hs x List.mem_cons_self
    have hn' := List.nodup_cons.mp hn
    have ih := pg1 A (B.erase x) hn'.2 fun y hy => by
      have hy' := hs y (List.mem_cons_of_mem _ hy)
      refine (List.mem_erase_of_ne ?_).mpr hy'
      rintro rfl
      exact hn'.1 hy
    have e := List.length_erase_of_mem hx
    have p := List.length_pos_of_mem hx
    simp only [List.length_cons]
    omega
theorem pg2 {α : Type} (f : α → Nat) (n : Nat) (A : List α) (hn : (A.map f).Nodup) (hl : ∀ x ∈ A, f x < n) : A.length ≤ n := by
  have := pg1 (A.map f) (List.range n) hn fun x hx => by
    obtain ⟨y, hy, rfl⟩ := List.mem_map.mp hx
    exact List.mem_range.mpr (hl y hy)
  simpa using this
theorem nodup_of_ix {α : Type} : ∀ (l : List α), (∀ (i j : Nat) (x : α), l[i]? = some x → l[j]? = some x → i = j) → l.Nodup
  | [], _ => List.nodup_nil
  | x :: l, h => by
    refine List.nodup_cons.mpr ⟨fun hx => ?_, nodup_of_ix l fun i j y hi hj => ?_⟩
    · obtain ⟨i, hi⟩ := List.mem_iff_getElem?.mp hx
      have := h 0 (i + 1) x (by simp) (by simpa using hi)
      omega
    · have := h (i + 1) (j + 1) y (by simpa using hi) (by simpa using hj)
      omega
theorem ix_of_nodup {α : Type} {l : List α} (hn : l.Nodup) {i j : Nat} {x : α} (hi : l[i]? = some x) (hj : l[j]? = some x) : i = j := by
  obtain ⟨h1, e1⟩ := List.getElem?_eq_some_iff.mp hi
  obtain ⟨h2, e2⟩ := List.getElem?_eq_some_iff.mp hj
  exact (List.getElem_inj hn).mp (e1.trans e2.symm)
/-- two numberings, the first finer -/
theorem finer {n c c' : Nat} {r r' : List Nat} (hl : r.length = n) (hl' : r'.length = n) (hv' : ∀ v ∈ r', v < c') (ha : ∀ v, v < c → v ∈ r)
    (hr : ∀ i j, i < n → j < n → r'.getD i 0 = r'.getD j 0 → r.getD i 0 = r.getD j 0) :
    c ≤ c' ∧ (c' ≤ c → ∀ i j, i < n → j < n → r.getD i 0 = r.getD j 0 → r'.getD i 0 = r'.getD j 0) := by
  have gd : ∀ {l : List Nat} {i : Nat} (h : i < l.length), l.getD i 0 = l[i] := fun h => by simp [h]
  have hg : ∀ i, i < n → r.getD (r'.idxOf (r'.getD i 0)) 0 = r.getD i 0 := fun i hi => by
    have hm : r'.getD i 0 ∈ r' := by rw [gd (by omega)]; exact List.getElem_mem _
    have h1 : r'.idxOf (r'.getD i 0) < r'.length := List.idxOf_lt_length_of_mem hm
    refine hr _ _ (by omega) hi ?_
    rw [gd h1]
    exact List.getElem_idxOf h1
  have hlt : ∀ i, i < n → r'.getD i 0 < c' := fun i hi => hv' _ (by rw [gd (by omega)]; exact List.getElem_mem _)
  have hget : ∀ v, v < c → ∃ i, i < n ∧ r.getD i 0 = v := fun v hv => by
    obtain ⟨i, hi⟩ := List.mem_iff_getElem?.mp (ha v hv)
    obtain ⟨h1, e1⟩ := List.getElem?_eq_some_iff.mp hi
    exact ⟨i, by omega, by rw [gd h1]; exact e1⟩
  have key : ∀ (L : List Nat), (∀ v, v < c → ∃ u ∈ L, r.getD (r'.idxOf u) 0 = v) → c ≤ L.length := fun L hL => by
    have := pg1 (List.range c) (L.map fun u => r.getD (r'.idxOf u) 0) List.nodup_range fun v hv => by
      obtain ⟨u, hu, e⟩ := hL v (List.mem_range.mp hv)
      exact List.mem_map.mpr ⟨u, hu, e⟩
    simpa using this
  refine ⟨?_, fun hc i j hi hj e => ?_⟩
  · have := key (List.range c') fun v hv => by
      obtain ⟨i, hi, e⟩ := hget v hv
      exact ⟨_, List.mem_range.mpr (hlt i hi), by rw [hg i hi, e]⟩
    simpa using this
  · by_cases hne : r'.getD i 0 = r'.getD j 0
    · exact hne
    · exfalso
      have hmem : r'.getD j 0 ∈ List.range c' := List.mem_range.mpr (hlt j hj)
      have := key ((List.range c').erase (r'.getD j 0)) fun v hv => by
        obtain ⟨k, hk, ek⟩ := hget v hv
        by_cases hkj : r'.getD k 0 = r'.getD j 0
        · refine ⟨r'.getD i 0, (List.mem_erase_of_ne hne).mpr (List.mem_range.mpr (hlt i hi)), ?_⟩
          rw [hg i hi, e, ← ek]
          exact (hr k j hk hj hkj).symm
        · exact ⟨r'.getD k 0, (List.mem_erase_of_ne hkj).mpr (List.mem_range.mpr (hlt k hk)), by rw [hg k hk, ek]⟩
      rw [List.length_erase_of_mem hmem, List.length_range] at this
      have p := List.length_pos_of_mem hmem
      rw [List.length_range] at p
      omega
/-! ### machines -/
abbrev Side := Bool × Nat
abbrev Mach := List (Side × Side)
def sd (M : Mach) (i : Nat) (b : Bool) : Side := match M[i]? with
  | some s => if b = true then s.2 else s.1
  | none => (false, 0)
def ot (M : Mach) (i : Nat) (b : Bool) : Bool := (sd M i b).1
def go (M : Mach) (i : Nat) (b : Bool) : Nat := (sd M i b).2
theorem sd_some {M : Mach} {i : Nat} {s : Side × Side} (h : M[i]? = some s) (b : Bool) : sd M i b = if b = true then s.2 else s.1 := by
  unfold sd
  rw [h]
theorem row_eq {M : Mach} {i : Nat} (h : i < M.length) : M[i]? = some ((ot M i false, go M i false), (ot M i true, go M i true)) := by
  have e : M[i]? = some M[i] := by simp [h]
  rw [e]
  unfold ot go
  rw [sd_some e, sd_some e]
  simp
def rn (M : Mach) : Nat → List Bool → Nat
  | i, [] => i
  | i, b :: w => rn M (go M i b) w
theorem rn_append (M : Mach) : ∀ (u : List Bool) (i : Nat) (v : List Bool), rn M i (u ++ v) = rn M (rn M i u) v
  | [], _, _ => rfl
  | b :: u, i, v => rn_append M u (go M i b) v
theorem rn_snoc (M : Mach) (u : List Bool) (i : Nat) (b : Bool) : rn M i (u ++ [b]) = go M (rn M i u) b := rn_append M u i [b]
/-- the same shown, whatever comes -/
def Sm (M : Mach) (i : Nat) (N : Mach) (j : Nat) : Prop := ∀ u b, ot M (rn M i u) b = ot N (rn N j u) b
section
variable {M N L : Mach} {i j k : Nat}
theorem Sm.refl (M : Mach) (i : Nat) : Sm M i M i := fun _ _ => rfl
theorem Sm.symm (h : Sm M i N j) : Sm N j M i := fun u b => (h u b).symm
theorem Sm.trans (h : Sm M i N j) (g : Sm N j L k) : Sm M i L k := fun u b => (h u b).trans (g u b)
theorem Sm.out (h : Sm M i N j) (b : Bool) : ot M i b = ot N j b := h [] b
theorem Sm.step (h : Sm M i N j) (b : Bool) : Sm M (go M i b) N (go N j b) := fun u c => h (b :: u) c
theorem Sm.coind (R : Nat → Nat → Prop) (h : ∀ i j, R i j → ∀ b, ot M i b = ot N j b ∧ R (go M i b) (go N j b)) (r : R i j) : Sm M i N j := by
  intro u
  induction u generalizing i j with
  | nil => exact fun b => (h i j r b).1
  | cons c u ih => exact ih (h i j r c).2
end
structure Ok (M : Mach) : Prop where
  pos : 0 < M.length
  lt : ∀ i b, i < M.length → go M i b < M.length
theorem Ok.rn_lt {M : Mach} (h : Ok M) : ∀ (u : List Bool) (i : Nat), i < M.length → rn M i u < M.length
  | [], _, hi => hi
  | b :: u, i, hi => h.rn_lt u _ (h.lt i b hi)
/-! ### Moore's refinement -/
/-- r numbers s: like ones alike, the numbers are those below c -/
structure Num {α : Type} (s : List α) (r : List Nat) (c : Nat) : Prop where
  len : r.length = s.length
  eq : ∀ i j, i < s.length → j < s.length → (r.getD i 0 = r.getD j 0 ↔ s[i]? = s[j]?)
  lt : ∀ v ∈ r, v < c
  all : ∀ v, v < c → v ∈ r
structure KInv (M : Mach) (ks : List Nat) (c : Nat) : Prop where
  len : ks.length = M.length
  lt : ∀ v ∈ ks, v < c
  all : ∀ v, v < c → v ∈ ks
  sm : ∀ i j, i < M.length → j < M.length → Sm M i M j → ks.getD i 0 = ks.getD j 0
  out : ∀ i j, i < M.length → j < M.length → ks.getD i 0 = ks.getD j 0 → ∀ b, ot M i b = ot M j b
def outs (M : Mach) : List (Bool × Bool) := M.map fun s => (s.1.1, s.2.1)
theorem outs_get {M : Mach} {i : Nat} (h : i < M.length) : (outs M)[i]? = some (ot M i false, ot M i true) := by
  unfold outs
  rw [List.getElem?_map, row_eq h]
  rfl
theorem KInv.first {M : Mach} {ks : List Nat} {c : Nat} (h : Num (outs M) ks c) : KInv M ks c := by
  have hl : (outs M).length = M.length := by simp [outs]
  refine ⟨h.len.trans hl, h.lt, h.all, fun i j hi hj s => ?_, fun i j hi hj e b => ?_⟩
  · refine (h.eq i j (by omega) (by omega)).mpr ?_
    rw [outs_get hi, outs_get hj, s.out false, s.out true]
  · have q := (h.eq i j (by omega) (by omega)).mp e
    rw [outs_get hi, outs_get hj] at q
    have q' := Option.some.inj q
    cases b with
    | false => exact (Prod.mk.inj q').1
    | true => exact (Prod.mk.inj q').2
def trips (M : Mach) (ks : List Nat) : List (Nat × Nat × Nat) := (List.range M.length).map fun i => (ks.getD i 0, ks.getD (go M i false) 0, ks.getD (go M i true) 0)
theorem trips_get {M : Mach} {ks : List Nat} {i : Nat} (h : i < M.length) : (trips M ks)[i]? = some (ks.getD i 0, ks.getD (go M i false) 0, ks.getD (go M i true) 0) := by
  unfold trips
  rw [List.getElem?_map, List.getElem?_range h]
  rfl
section
variable {M : Mach} {ks ks' : List Nat} {c c' : Nat}
theorem KInv.fine (h' : Num (trips M ks) ks' c') {i j : Nat} (hi : i < M.length) (hj : j < M.length) (e : ks'.getD i 0 = ks'.getD j 0) :
    ks.getD i 0 = ks.getD j 0 ∧ ∀ b, ks.getD (go M i b) 0 = ks.getD (go M j b) 0 := by
  have hl : (trips M ks).length = M.length := by simp [trips]
  have q := (h'.eq i j (by omega) (by omega)).mp e
  rw [trips_get hi, trips_get hj] at q
  have q' := Option.some.inj q
  simp only [Prod.mk.injEq] at q'
  refine ⟨q'.1, fun b => ?_⟩
  cases b with
  | false => exact q'.2.1
  | true => exact q'.2.2
theorem KInv.next (ok : Ok M) (h : KInv M ks c) (h' : Num (trips M ks) ks' c') : KInv M ks' c' := by
  have hl : (trips M ks).length = M.length := by simp [trips]
  refine ⟨h'.len.trans hl, h'.lt, h'.all, fun i j hi hj s => ?_, fun i j hi hj e b => h.out i j hi hj (KInv.fine h' hi hj e).1 b⟩
  refine (h'.eq i j (by omega) (by omega)).mpr ?_
  rw [trips_get hi, trips_get hj, h.sm i j hi hj s, h.sm _ _ (ok.lt i false hi) (ok.lt j false hj) (s.step false), h.sm _ _ (ok.lt i true hi) (ok.lt j true hj) (s.step true)]
theorem KInv.le (h : KInv M ks c) (h' : Num (trips M ks) ks' c') : c ≤ c' := by
  have hl : (trips M ks).length = M.length := by simp [trips]
  exact (finer h.len (h'.len.trans hl) h'.lt h.all fun i j hi hj e => (KInv.fine h' hi hj e).1).1
/-- the count does not grow: the kinds are the standings that show the same -/
def Kin (M : Mach) (ks : List Nat) : Prop := ks.length = M.length ∧ ∀ i j, i < M.length → j < M.length → (ks.getD i 0 = ks.getD j 0 ↔ Sm M i M j)
theorem KInv.stop (ok : Ok M) (h : KInv M ks c) (h' : Num (trips M ks) ks' c') (hc : c' ≤ c) : Kin M ks ∧ Kin M ks' := by
  have hl : (trips M ks).length = M.length := by simp [trips]
  have h2 := KInv.next ok h h'
  have st := (finer h.len (h'.len.trans hl) h'.lt h.all fun i j hi hj e => (KInv.fine h' hi hj e).1).2 hc
  have main : ∀ i j, i < M.length → j < M.length → ks.getD i 0 = ks.getD j 0 → Sm M i M j := fun i j hi hj e =>
    Sm.coind (fun i j => i < M.length ∧ j < M.length ∧ ks.getD i 0 = ks.getD j 0)
      (fun i j ⟨hi, hj, e⟩ b => ⟨h.out i j hi hj e b, ok.lt i b hi, ok.lt j b hj, (KInv.fine h' hi hj (st i j hi hj e)).2 b⟩) ⟨hi, hj, e⟩
  exact ⟨⟨h.len, fun i j hi hj => ⟨main i j hi hj, h.sm i j hi hj⟩⟩,
    ⟨h2.len, fun i j hi hj => ⟨fun e => main i j hi hj (KInv.fine h' hi hj e).1, h2.sm i j hi hj⟩⟩⟩
theorem KInv.count (h : KInv M ks c) : c ≤ M.length := by
  have := pg1 (List.range c) ks List.nodup_range fun v hv => h.all v (List.mem_range.mp hv)
  rw [List.length_range, h.len] at this
  exact this
theorem KInv.pos (h : KInv M ks c) (hM : 0 < M.length) : 0 < c := by
  have hk : 0 < ks.length := by rw [h.len]; exact hM
  have := h.lt _ (List.getElem_mem hk)
  omega
end
/-! ### the least machine -/
/-- going from number to number in the order in which they first come: m is the next one -/
def adv (m x : Nat) : Option Nat := if x < m then some m else if x = m then some (m + 1) else none
def canon : Mach → Nat → Option Nat
  | [], m => some m
  | s :: r, m => (adv m s.1.2).bind fun m1 => (adv m1 s.2.2).bind fun m2 => canon r m2
theorem canon_append : ∀ (A B : Mach) (m : Nat), canon (A ++ B) m = (canon A m).bind (canon B)
  | [], _, _ => rfl
  | s :: A, B, m => by
    show ((adv m s.1.2).bind fun m1 => (adv m1 s.2.2).bind fun m2 => canon (A ++ B) m2) = Option.bind ((adv m s.1.2).bind fun m1 => (adv m1 s.2.2).bind fun m2 => canon A m2) (canon B)
    cases adv m s.1.2 with
    | none => rfl
    | some m1 =>
      show ((adv m1 s.2.2).bind fun m2 => canon (A ++ B) m2) = Option.bind ((adv m1 s.2.2).bind fun m2 => canon A m2) (canon B)
      cases adv m1 s.2.2 with
      | none => rfl
      | some m2 => exact canon_append A B m2
structure IsLst (M L : Mach) : Prop where
  ok : Ok L
  red : ∀ i j, i < L.length → j < L.length → Sm L i L j → i = j
  can : canon L 1 = some L.length
  grd : ∀ t, t < L.length → ∃ m, canon (L.take t) 1 = some m ∧ t < m
  sm : Sm M 0 L 0
theorem IsLst.self {M L : Mach} (h : IsLst M L) : IsLst L L := ⟨h.ok, h.red, h.can, h.grd, Sm.refl _ _⟩
theorem IsLst.of {M N L : Mach} (h : IsLst M L) (s : Sm N 0 M 0) : IsLst N L := ⟨h.ok, h.red, h.can, h.grd, s.trans h.sm⟩
theorem take_next {α : Type} {l : List α} {t : Nat} {x : α} (h : l[t]? = some x) : l.take (t + 1) = l.take t ++ [x] := by
  rw [List.take_succ, h]
  rfl
theorem adv_some {m x m' : Nat} (h : adv m x = some m') : (x < m ∧ m' = m) ∨ (x = m ∧ m' = m + 1) := by
  unfold adv at h
  split at h
  · exact .inl ⟨by assumption, (Option.some.inj h).symm⟩
  · split at h
    · exact .inr ⟨by assumption, (Option.some.inj h).symm⟩
    · cases h
/-- one side of two machines that go alike: the same number comes, and they still go alike -/
theorem adv_same {L L' : Mach} {m m' x x' m1 : Nat} (hL : ∀ i j, i < L.length → j < L.length → Sm L i L j → i = j) (hL' : ∀ i j, i < L'.length → j < L'.length → Sm L' i L' j → i = j)
    (hm : ∀ i, i < m → Sm L i L' i) (hx : x < L.length) (hx' : x' < L'.length) (s : Sm L x L' x') (a : adv m x = some m1) (a' : adv m x' = some m')
    (hmL : m ≤ L.length) (hmL' : m ≤ L'.length) : x = x' ∧ m' = m1 ∧ ∀ i, i < m1 → Sm L i L' i := by
  rcases adv_some a with ⟨h1, e1⟩ | ⟨h1, e1⟩ <;> rcases adv_some a' with ⟨h2, e2⟩ | ⟨h2, e2⟩
  · have e : x = x' := hL' x x' (by omega) hx' ((hm x h1).symm.trans s)
    exact ⟨e, by omega, fun i hi => hm i (by omega)⟩
  · exfalso
    have e : x = x' := hL' x x' (by omega) hx' ((hm x h1).symm.trans s)
    omega
  · exfalso
    have e : x = x' := hL x x' hx (by omega) (s.trans (hm x' h2).symm)
    omega
  · refine ⟨by omega, by omega, fun i hi => ?_⟩
    by_cases q : i < m
    · exact hm i q
    · have e : i = x := by omega
      have e' : i = x' := by omega
      rw [← e, ← e'] at s
      exact s
theorem canon_le {L : Mach} {t m : Nat} (hc : canon L 1 = some L.length) (h : canon (L.take t) 1 = some m) : m ≤ L.length := by
  have mono : ∀ (A : Mach) (a b : Nat), canon A a = some b → a ≤ b := by
    intro A
    induction A with
    | nil =>
      intro a b e
      have := Option.some.inj (show some a = some b from e)
      omega
    | cons s r ih =>
      intro a b e
      have e' : ((adv a s.1.2).bind fun m1 => (adv m1 s.2.2).bind fun m2 => canon r m2) = some b := e
      obtain ⟨m1, h1, e1⟩ := Option.bind_eq_some_iff.mp e'
      obtain ⟨m2, h2, e2⟩ := Option.bind_eq_some_iff.mp e1
      have := ih m2 b e2
      rcases adv_some h1 with q | q <;> rcases adv_some h2 with q' | q' <;> omega
  have e : canon (L.take t ++ L.drop t) 1 = some L.length := by rw [List.take_append_drop]; exact hc
  rw [canon_append, h] at e
  exact mono _ _ _ e
/-- the row at t, as the numbering sees it -/
theorem canon_row {L : Mach} {t m : Nat} (hc : canon L 1 = some L.length) (ht : t < L.length) (h : canon (L.take t) 1 = some m) :
    ∃ m1 m2, adv m (go L t false) = some m1 ∧ adv m1 (go L t true) = some m2 ∧ canon (L.take (t + 1)) 1 = some m2 := by
  have r := row_eq ht
  have e : canon (L.take (t + 1) ++ L.drop (t + 1)) 1 = some L.length := by rw [List.take_append_drop]; exact hc
  rw [canon_append, take_next r, canon_append, h] at e
  obtain ⟨m2, h2, _⟩ := Option.bind_eq_some_iff.mp e
  have h2' : ((adv m (go L t false)).bind fun m1 => (adv m1 (go L t true)).bind fun m2 => some m2) = some m2 := h2
  obtain ⟨m1, a1, b1⟩ := Option.bind_eq_some_iff.mp h2'
  obtain ⟨m3, a2, b2⟩ := Option.bind_eq_some_iff.mp b1
  have e3 : m3 = m2 := Option.some.inj b2
  subst e3
  refine ⟨m1, m3, a1, a2, ?_⟩
  rw [take_next r, canon_append, h]
  exact h2
theorem lst_step {L L' : Mach} (h : IsLst L L) (h' : IsLst L' L') (s : Sm L 0 L' 0) : ∀ t, t ≤ L.length → t ≤ L'.length →
    L.take t = L'.take t ∧ ∀ m, canon (L.take t) 1 = some m → ∀ i, i < m → Sm L i L' i
  | 0, _, _ => ⟨rfl, fun m hm i hi => by
      have e : (1 : Nat) = m := Option.some.inj (show some 1 = some m from hm)
      have : i = 0 := by omega
      subst this
      exact s⟩
  | t + 1, hl, hl' => by
    obtain ⟨e, hs⟩ := lst_step h h' s t (by omega) (by omega)
    obtain ⟨m, hm, htm⟩ := h.grd t (by omega)
    have hm' : canon (L'.take t) 1 = some m := by rw [← e]; exact hm
    have st := hs m hm t htm
    obtain ⟨m1, m2, a1, a2, a3⟩ := canon_row h.can (by omega) hm
    obtain ⟨n1, n2, b1, b2, b3⟩ := canon_row h'.can (by omega) hm'
    have l1 := canon_le h.can hm
    have l1' := canon_le h'.can hm'
    have l2 := canon_le h.can a3
    have l2' := canon_le h'.can b3
    obtain ⟨x1, y1, z1⟩ := adv_same h.red h'.red (hs m hm) (h.ok.lt t false (by omega)) (h'.ok.lt t false (by omega)) (st.step false) a1 b1 l1 l1'
    subst y1
    have le12 : n1 ≤ n2 := by rcases adv_some b2 with q | q <;> omega
    have le12' : n1 ≤ m2 := by rcases adv_some a2 with q | q <;> omega
    obtain ⟨x2, y2, z2⟩ := adv_same h.red h'.red z1 (h.ok.lt t true (by omega)) (h'.ok.lt t true (by omega)) (st.step true) a2 b2 (by omega) (by omega)
    have r := row_eq (M := L) (i := t) (by omega)
    have r' := row_eq (M := L') (i := t) (by omega)
    refine ⟨?_, fun k hk => ?_⟩
    · rw [take_next r, take_next r', e, x1, x2, st.out false, st.out true]
    · rw [a3] at hk
      have ek : m2 = k := Option.some.inj hk
      subst ek
      exact z2
theorem lst_len {L L' : Mach} (h : IsLst L L) (h' : IsLst L' L') (s : Sm L 0 L' 0) (hl : L.length ≤ L'.length) : L' = L := by
  obtain ⟨e, _⟩ := lst_step h h' s L.length (Nat.le_refl _) hl
  rw [List.take_length] at e
  by_cases q : L.length < L'.length
  · exfalso
    obtain ⟨m, hm, hlt⟩ := h'.grd L.length q
    rw [← e, h.can] at hm
    have := Option.some.inj hm
    omega
  · have : L.length = L'.length := by omega
    rw [e, this, List.take_length]
/-- THERE IS JUST ONE -/
theorem lst_one {M N L L' : Mach} (h : IsLst M L) (h' : IsLst N L') (s : Sm M 0 N 0) : L = L' := by
  have s' : Sm L 0 L' 0 := (h.sm.symm.trans s).trans h'.sm
  by_cases q : L.length ≤ L'.length
  · exact (lst_len h.self h'.self s' q).symm
  · exact lst_len h'.self h.self s'.symm (by omega)
/-- the numbering as it is made: order: which standings have come; F: the rows told so far -/
structure BInv (M : Mach) (order : List Nat) (F : Mach) : Prop where
  h0 : order[0]? = some 0
  lt : ∀ t ∈ order, t < M.length
  inj : ∀ (p q x y : Nat), order[p]? = some x → order[q]? = some y → Sm M x M y → p = q
  len : F.length ≤ order.length
  row : ∀ t x, t < F.length → order[t]? = some x → ∀ b, ot F t b = ot M x b ∧ ∃ y, order[go F t b]? = some y ∧ Sm M y M (go M x b)
  can : canon F 1 = some order.length
  grd : ∀ t, t < F.length → ∃ m, canon (F.take t) 1 = some m ∧ t < m
theorem BInv.init {M : Mach} (ok : Ok M) : BInv M [0] [] where
  h0 := rfl
  lt := fun t ht => by
    have : t = 0 := by simpa using ht
    rw [this]; exact ok.pos
  inj := fun p q x y hp hq _ => by
    have h1 := (List.getElem?_eq_some_iff.mp hp).1
    have h2 := (List.getElem?_eq_some_iff.mp hq).1
    simp only [List.length_cons, List.length_nil] at h1 h2
    omega
  len := Nat.zero_le _
  row := fun t x h _ => absurd h (Nat.not_lt_zero _)
  can := rfl
  grd := fun t h => absurd h (Nat.not_lt_zero _)
/-- y stands at q of order', order' being order, or one longer -/
def Step (M : Mach) (order : List Nat) (y q : Nat) (order' : List Nat) : Prop :=
  (order' = order ∧ ∃ x, order[q]? = some x ∧ Sm M x M y) ∨ (order' = order ++ [y] ∧ q = order.length ∧ ∀ x ∈ order, ¬ Sm M x M y)
section
variable {M F : Mach} {order o1 o2 : List Nat} {x y q q1 q2 : Nat}
theorem Step.adv (s : Step M order y q o1) : adv order.length q = some o1.length := by
  unfold KM.adv
  rcases s with ⟨rfl, z, hz, _⟩ | ⟨rfl, rfl, _⟩
  · rw [if_pos (List.getElem?_eq_some_iff.mp hz).1]
  · rw [if_neg (Nat.lt_irrefl _), if_pos rfl, List.length_append]; rfl
theorem Step.keep (s : Step M order y q o1) {p z : Nat} (h : order[p]? = some z) : o1[p]? = some z := by
  rcases s with ⟨rfl, _⟩ | ⟨rfl, _⟩
  · exact h
  · rw [List.getElem?_append_left (List.getElem?_eq_some_iff.mp h).1]; exact h
theorem Step.at_ (s : Step M order y q o1) : ∃ z, o1[q]? = some z ∧ Sm M z M y := by
  rcases s with ⟨rfl, z, hz, h⟩ | ⟨rfl, rfl, _⟩
  · exact ⟨z, hz, h⟩
  · exact ⟨y, by simp, Sm.refl _ _⟩
theorem Step.lt (s : Step M order y q o1) (hy : y < M.length) (h : ∀ t ∈ order, t < M.length) : ∀ t ∈ o1, t < M.length := by
  rcases s with ⟨rfl, _⟩ | ⟨rfl, _⟩
  · exact h
  · intro t ht
    rcases List.mem_append.mp ht with q | q
    · exact h t q
    · have : t = y := by simpa using q
      rw [this]; exact hy
theorem Step.inj (s : Step M order y q o1) (h : ∀ (p q x y : Nat), order[p]? = some x → order[q]? = some y → Sm M x M y → p = q) : ∀ (p q x y : Nat), o1[p]? = some x → o1[q]? = some y → Sm M x M y → p = q := by
  rcases s with ⟨rfl, _⟩ | ⟨rfl, _, hn⟩
  · exact h
  · have at2 : ∀ {p z}, (order ++ [y])[p]? = some z → order[p]? = some z ∨ (p = order.length ∧ z = y) := fun {p z} hp => by
      by_cases hl : p < order.length
      · rw [List.getElem?_append_left hl] at hp; exact .inl hp
      · have hb := (List.getElem?_eq_some_iff.mp hp).1
        rw [List.length_append, List.length_singleton] at hb
        have e : p = order.length := by omega
        subst e
        rw [List.getElem?_append_right (Nat.le_refl _)] at hp
        simp only [Nat.sub_self, List.getElem?_cons_zero, Option.some.injEq] at hp
        exact .inr ⟨rfl, hp.symm⟩
    intro p r a b hp hr s
    rcases at2 hp with h1 | ⟨h1, e1⟩ <;> rcases at2 hr with h2 | ⟨h2, e2⟩
    · exact h p r a b h1 h2 s
    · rw [e2] at s; exact absurd s (hn a (List.mem_of_getElem? h1))
    · rw [e1] at s; exact absurd s.symm (hn b (List.mem_of_getElem? h2))
    · omega
theorem ot_snoc_lt {F : Mach} {s : Side × Side} {t : Nat} (h : t < F.length) (b : Bool) : sd (F ++ [s]) t b = sd F t b := by
  unfold sd
  rw [List.getElem?_append_left h]
theorem ot_snoc {F : Mach} {s : Side × Side} (b : Bool) : sd (F ++ [s]) F.length b = if b = true then s.2 else s.1 := sd_some (by simp) b
theorem BInv.next (ok : Ok M) (h : BInv M order F) (hx : order[F.length]? = some x) (s1 : Step M order (go M x false) q1 o1) (s2 : Step M o1 (go M x true) q2 o2) :
    BInv M o2 (F ++ [((ot M x false, q1), (ot M x true, q2))]) := by
  have hxl : x < M.length := h.lt x (List.mem_of_getElem? hx)
  have hFl : F.length < order.length := (List.getElem?_eq_some_iff.mp hx).1
  have kp : ∀ {p z}, order[p]? = some z → o2[p]? = some z := fun e => s2.keep (s1.keep e)
  have back : ∀ {p z}, o2[p]? = some z → p < order.length → order[p]? = some z := fun {p z} e hl => by
    have e1 : order[p]? = some order[p] := by simp [hl]
    have e2 := kp e1
    rw [e] at e2
    rw [Option.some.inj e2]
    exact e1
  have can' : canon (F ++ [((ot M x false, q1), (ot M x true, q2))]) 1 = some o2.length := by
    rw [canon_append, h.can]
    show ((adv order.length q1).bind fun m1 => (adv m1 q2).bind fun m2 => some m2) = _
    rw [s1.adv]
    show ((adv o1.length q2).bind fun m2 => some m2) = _
    rw [s2.adv]
    rfl
  have lle : order.length ≤ o2.length := by
    rcases s1 with ⟨rfl, _⟩ | ⟨rfl, _⟩ <;> rcases s2 with ⟨rfl, _⟩ | ⟨rfl, _⟩ <;> simp <;> omega
  refine ⟨kp h.h0, s2.lt (ok.lt x true hxl) (s1.lt (ok.lt x false hxl) h.lt), s2.inj (s1.inj h.inj), ?_, fun t z ht hz b => ?_, can', fun t ht => ?_⟩
  · rw [List.length_append, List.length_singleton]; omega
  · rw [List.length_append, List.length_singleton] at ht
    have hz' := back hz (by omega)
    by_cases q : t < F.length
    · obtain ⟨a, y, hy, hs⟩ := h.row t z q hz' b
      refine ⟨?_, y, ?_, hs⟩
      · unfold ot; rw [ot_snoc_lt q]; exact a
      · unfold go; rw [ot_snoc_lt q]; exact kp hy
    · have e : t = F.length := by omega
      subst e
      rw [hx] at hz'
      have ez : x = z := Option.some.inj hz'
      subst ez
      unfold ot go
      rw [ot_snoc]
      cases b with
      | false =>
        obtain ⟨y, hy, hs⟩ := s1.at_
        exact ⟨rfl, y, s2.keep hy, hs⟩
      | true =>
        obtain ⟨y, hy, hs⟩ := s2.at_
        exact ⟨rfl, y, hy, hs⟩
  · rw [List.length_append, List.length_singleton] at ht
    by_cases q : t < F.length
    · obtain ⟨m, hm, hlt⟩ := h.grd t q
      exact ⟨m, by rw [List.take_append_of_le_length (by omega)]; exact hm, hlt⟩
    · have e : t = F.length := by omega
      subst e
      exact ⟨order.length, by rw [List.take_append_of_le_length (Nat.le_refl _), List.take_length]; exact h.can, hFl⟩
theorem BInv.nodup (h : BInv M order F) : order.Nodup := nodup_of_ix order fun i j x hi hj => h.inj i j x x hi hj (Sm.refl _ _)
theorem BInv.few (h : BInv M order F) : order.length ≤ M.length := by
  have := pg1 order (List.range M.length) h.nodup fun x hx => List.mem_range.mpr (h.lt x hx)
  rw [List.length_range] at this
  exact this
theorem BInv.done (h : BInv M order F) (e : F.length = order.length) : IsLst M F := by
  have hp : 0 < order.length := (List.getElem?_eq_some_iff.mp h.h0).1
  have gl : ∀ t b, t < F.length → go F t b < F.length := fun t b ht => by
    have e1 : order[t]? = some (order[t]'(by omega)) := by simp [show t < order.length by omega]
    obtain ⟨_, y, hy, _⟩ := h.row t _ ht e1 b
    have := (List.getElem?_eq_some_iff.mp hy).1
    omega
  have sm : ∀ t x, order[t]? = some x → Sm F t M x := fun t x hx => by
    refine Sm.coind (fun t x => t < F.length ∧ ∃ z, order[t]? = some z ∧ Sm M z M x) (fun t x ⟨ht, z, hz, s⟩ b => ?_) ⟨by have := (List.getElem?_eq_some_iff.mp hx).1; omega, x, hx, Sm.refl _ _⟩
    obtain ⟨a, y, hy, hs⟩ := h.row t z ht hz b
    exact ⟨a.trans (s.out b), gl t b ht, y, hy, hs.trans (s.step b)⟩
  refine ⟨⟨by omega, gl⟩, fun i j hi hj s => ?_, by rw [e]; exact h.can, h.grd, (sm 0 0 h.h0).symm⟩
  have e1 : order[i]? = some (order[i]'(by omega)) := by simp [show i < order.length by omega]
  have e2 : order[j]? = some (order[j]'(by omega)) := by simp [show j < order.length by omega]
  exact h.inj i j _ _ e1 e2 (((sm i _ e1).symm.trans s).trans (sm j _ e2))
end
end KM
/-! K13Math2: the least word behind which two machines show unlike ones; machines told wider; the machines that count. Core Lean alone. -/
namespace KM
/-! ### words by numbers: the fewest, then the least -/
def code (w : List Bool) : Nat := w.foldl (fun a b => 2 * a + 1 + b.toNat) 0
theorem code_snoc (u : List Bool) (b : Bool) : code (u ++ [b]) = 2 * code u + 1 + b.toNat := by
  unfold code
  rw [List.foldl_append]
  rfl
theorem code_nil : code [] = 0 := rfl
theorem snoc_cases (w : List Bool) : w = [] ∨ ∃ u b, w = u ++ [b] := by
  rcases List.eq_nil_or_concat w with h | ⟨u, b, h⟩
  · exact .inl h
  · exact .inr ⟨u, b, by rw [h, List.concat_eq_append]⟩
theorem code_inj : ∀ (n : Nat) (u v : List Bool), u.length ≤ n → code u = code v → u = v
  | n, u, v, hn, h => by
    rcases snoc_cases u with rfl | ⟨u', b, rfl⟩
    · rcases snoc_cases v with rfl | ⟨v', c, rfl⟩
      · rfl
      · rw [code_nil, code_snoc] at h
        omega
    · rcases snoc_cases v with rfl | ⟨v', c, rfl⟩
      · rw [code_nil, code_snoc] at h
        omega
      · rw [code_snoc, code_snoc] at h
        cases n with
        | zero => simp at hn
        | succ n =>
          have hb : b.toNat ≤ 1 := by cases b <;> decide
          have hc : c.toNat ≤ 1 := by cases c <;> decide
          have e1 : code u' = code v' := by omega
          have e2 : b.toNat = c.toNat := by omega
          have e3 : b = c := by cases b <;> cases c <;> first | rfl | (simp at e2)
          rw [code_inj n u' v' (by simpa using hn) e1, e3]
theorem code_eq {u v : List Bool} (h : code u = code v) : u = v := code_inj _ u v (Nat.le_refl _) h
def dif (M N : Mach) (w : List Bool) : Prop := ∃ u b, w = u ++ [b] ∧ ot M (rn M 0 u) b ≠ ot N (rn N 0 u) b
def IsUnl (M N : Mach) : Option (List Bool) → Prop
  | none => ∀ w, ¬ dif M N w
  | some w => dif M N w ∧ ∀ v, dif M N v → code w ≤ code v
theorem unl_one {M N : Mach} {r r' : Option (List Bool)} (h : IsUnl M N r) (h' : IsUnl M N r') : r = r' := by
  cases r with
  | none =>
    cases r' with
    | none => rfl
    | some w => exact absurd h'.1 (h w)
  | some w =>
    cases r' with
    | none => exact absurd h.1 (h' w)
    | some w' => rw [code_eq (Nat.le_antisymm (h.2 w' h'.1) (h'.2 w h.1))]
theorem dif_symm {M N : Mach} {w : List Bool} (h : dif M N w) : dif N M w := let ⟨u, b, e, h⟩ := h; ⟨u, b, e, Ne.symm h⟩
theorem IsUnl.symm {M N : Mach} {r : Option (List Bool)} (h : IsUnl M N r) : IsUnl N M r := by
  cases r with
  | none => exact fun w q => h w (dif_symm q)
  | some w => exact ⟨dif_symm h.1, fun v q => h.2 v (dif_symm q)⟩
theorem dif_of {M M' N : Mach} (s : Sm M 0 M' 0) {w : List Bool} (h : dif M N w) : dif M' N w := let ⟨u, b, e, h⟩ := h; ⟨u, b, e, by rw [← s u b]; exact h⟩
theorem IsUnl.of {M M' N : Mach} (s : Sm M 0 M' 0) {r : Option (List Bool)} (h : IsUnl M N r) : IsUnl M' N r := by
  cases r with
  | none => exact fun w q => h w (dif_of s.symm q)
  | some w => exact ⟨dif_of s h.1, fun v q => h.2 v (dif_of s.symm q)⟩
theorem IsUnl.sm {M N : Mach} (h : IsUnl M N none) : Sm M 0 N 0 := fun u b => Classical.byContradiction fun q => h (u ++ [b]) ⟨u, b, rfl, q⟩
theorem IsUnl.of_sm {M N : Mach} (h : Sm M 0 N 0) : IsUnl M N none := fun w ⟨u, b, _, q⟩ => q (h u b)
theorem IsUnl.not_sm {M N : Mach} {w : List Bool} (h : IsUnl M N (some w)) : ¬ Sm M 0 N 0 := fun s => let ⟨u, b, _, q⟩ := h.1; q (s u b)
/-- a word that is a shorter one of dif is not below: what stands ahead of its last sign shows alike -/
theorem IsUnl.ahead {M N : Mach} {w u : List Bool} {b : Bool} (h : IsUnl M N (some w)) (e : w = u ++ [b]) : ∀ v c t, u = v ++ c :: t → ot M (rn M 0 v) c = ot N (rn N 0 v) c := fun v c t eu => Classical.byContradiction fun q => by
  have h2 := h.2 (v ++ [c]) ⟨v, c, rfl, q⟩
  have mono : ∀ (t : List Bool) (x : List Bool), code x ≤ code (x ++ t) := by
    intro t
    induction t with
    | nil => intro x; rw [List.append_nil]; exact Nat.le_refl _
    | cons d t ih =>
      intro x
      have := ih (x ++ [d])
      rw [code_snoc, List.append_assoc] at this
      have e2 : x ++ d :: t = x ++ ([d] ++ t) := rfl
      rw [e2]
      omega
  have h3 := mono (t) (v ++ [c])
  have e3 : v ++ [c] ++ t = u := by rw [eu]; simp
  rw [e3] at h3
  rw [e, code_snoc] at h2
  omega
/-! ### going from pair to pair -/
/-- the pair behind a word -/
def rc (M N : Mach) (w : List Bool) : Nat × Nat := (rn M 0 w, rn N 0 w)
/-- E: the words to the pairs met, in the order in which they were; the first p sides of theirs are looked at -/
structure UInv (M N : Mach) (E : List (List Bool)) (p : Nat) : Prop where
  e0 : E[0]? = some []
  asc : ∀ (i j : Nat) (u v : List Bool), E[i]? = some u → E[j]? = some v → i < j → code u < code v
  inj : ∀ (i j : Nat) (u v : List Bool), E[i]? = some u → E[j]? = some v → rc M N u = rc M N v → i = j
  prc : ∀ (j : Nat) (b : Bool) (u : List Bool), 2 * j + b.toNat < p → E[j]? = some u → ot M (rn M 0 u) b = ot N (rn N 0 u) b ∧ ∃ (i : Nat) (v : List Bool), E[i]? = some v ∧ rc M N v = rc M N (u ++ [b]) ∧ code v ≤ code (u ++ [b])
  org : ∀ (i : Nat) (v : List Bool), E[i]? = some v → i = 0 ∨ ∃ (j : Nat) (b : Bool) (u : List Bool), 2 * j + b.toNat < p ∧ j < i ∧ E[j]? = some u ∧ v = u ++ [b]
section
variable {M N : Mach} {E : List (List Bool)} {p : Nat}
theorem UInv.init (M N : Mach) : UInv M N [[]] 0 where
  e0 := rfl
  asc := fun i j u v hi hj h => by
    have := (List.getElem?_eq_some_iff.mp hj).1
    simp at this
    omega
  inj := fun i j u v hi hj h => by
    have h1 := (List.getElem?_eq_some_iff.mp hi).1
    have h2 := (List.getElem?_eq_some_iff.mp hj).1
    simp at h1 h2
    omega
  prc := fun j b u h _ => absurd h (Nat.not_lt_zero _)
  org := fun i v h => .inl (by
    have := (List.getElem?_eq_some_iff.mp h).1
    simp at this
    exact this)
theorem snoc_at {α : Type} {l : List α} {x y : α} {t : Nat} (h : (l ++ [x])[t]? = some y) : (t < l.length ∧ l[t]? = some y) ∨ (t = l.length ∧ y = x) := by
  by_cases q : t < l.length
  · rw [List.getElem?_append_left q] at h
    exact .inl ⟨q, h⟩
  · have hb := (List.getElem?_eq_some_iff.mp h).1
    rw [List.length_append, List.length_singleton] at hb
    have e : t = l.length := by omega
    subst e
    rw [List.getElem?_append_right (Nat.le_refl _)] at h
    simp only [Nat.sub_self, List.getElem?_cons_zero, Option.some.injEq] at h
    exact .inr ⟨rfl, h.symm⟩
theorem at_app {α : Type} {l : List α} {x y : α} {t : Nat} (h : l[t]? = some y) : (l ++ [x])[t]? = some y := by
  rw [List.getElem?_append_left (List.getElem?_eq_some_iff.mp h).1]; exact h
theorem bool_split {j j' : Nat} {b b' : Bool} (h : 2 * j + b.toNat = 2 * j' + b'.toNat) : j = j' ∧ b = b' := by
  cases b <;> cases b' <;> simp at h ⊢ <;> omega
/-- a code of a word met is below that of the next side -/
theorem UInv.below (h : UInv M N E p) {j : Nat} {b : Bool} {u : List Bool} (hp : p = 2 * j + b.toNat) (hu : E[j]? = some u) {i : Nat} {v : List Bool} (hv : E[i]? = some v) : code v < code (u ++ [b]) := by
  rw [code_snoc]
  rcases h.org i v hv with rfl | ⟨j', b', u', hl, _, hu', rfl⟩
  · have e : v = [] := by
      have := h.e0
      rw [hv] at this
      exact Option.some.inj this
    rw [e, code_nil]
    omega
  · rw [code_snoc]
    by_cases e : j' = j
    · subst e
      rw [hu'] at hu
      have := Option.some.inj hu
      subst this
      omega
    · have lt : j' < j := by
        have hb : b.toNat ≤ 1 := by cases b <;> decide
        have hb' : b'.toNat ≤ 1 := by cases b' <;> decide
        omega
      have := h.asc j' j u' u hu' hu lt
      have hb' : b'.toNat ≤ 1 := by cases b' <;> decide
      omega
/-- the next side leads to a pair that was met -/
theorem UInv.seen (h : UInv M N E p) {j : Nat} {b : Bool} {u : List Bool} (hp : p = 2 * j + b.toNat) (hu : E[j]? = some u) (ho : ot M (rn M 0 u) b = ot N (rn N 0 u) b) {i : Nat} {v : List Bool} (hv : E[i]? = some v) (e : rc M N v = rc M N (u ++ [b])) :
    UInv M N E (p + 1) := by
  refine ⟨h.e0, h.asc, h.inj, fun j' b' u' hl hu' => ?_, fun i' v' hv' => ?_⟩
  · by_cases q : 2 * j' + b'.toNat < p
    · exact h.prc j' b' u' q hu'
    · obtain ⟨rfl, rfl⟩ := bool_split (show 2 * j' + b'.toNat = 2 * j + b.toNat by omega)
      rw [hu] at hu'
      have := Option.some.inj hu'
      subst this
      exact ⟨ho, i, v, hv, e, Nat.le_of_lt (h.below hp hu hv)⟩
  · rcases h.org i' v' hv' with q | ⟨a, b', c, d, r⟩
    · exact .inl q
    · exact .inr ⟨a, b', c, by omega, r⟩
/-- .. to a new pair -/
theorem UInv.more (h : UInv M N E p) {j : Nat} {b : Bool} {u : List Bool} (hp : p = 2 * j + b.toNat) (hu : E[j]? = some u) (ho : ot M (rn M 0 u) b = ot N (rn N 0 u) b) (hn : ∀ v ∈ E, rc M N v ≠ rc M N (u ++ [b])) :
    UInv M N (E ++ [u ++ [b]]) (p + 1) := by
  have jl := (List.getElem?_eq_some_iff.mp hu).1
  refine ⟨at_app h.e0, fun i k x y hx hy hik => ?_, fun i k x y hx hy e => ?_, fun j' b' u' hl hu' => ?_, fun i v hv => ?_⟩
  · rcases snoc_at hx with ⟨h1, hx⟩ | ⟨h1, rfl⟩ <;> rcases snoc_at hy with ⟨h2, hy⟩ | ⟨h2, rfl⟩
    · exact h.asc i k x y hx hy hik
    · exact h.below hp hu hx
    · omega
    · omega
  · rcases snoc_at hx with ⟨h1, hx⟩ | ⟨h1, rfl⟩ <;> rcases snoc_at hy with ⟨h2, hy⟩ | ⟨h2, rfl⟩
    · exact h.inj i k x y hx hy e
    · exact absurd e (hn x (List.mem_of_getElem? hx))
    · exact absurd e.symm (hn y (List.mem_of_getElem? hy))
    · omega
  · by_cases q : 2 * j' + b'.toNat < p
    · rcases snoc_at hu' with ⟨h1, hu'⟩ | ⟨h1, rfl⟩
      · obtain ⟨a, i, v, hv, r⟩ := h.prc j' b' u' q hu'
        exact ⟨a, i, v, at_app hv, r⟩
      · exfalso
        have hb : b.toNat ≤ 1 := by cases b <;> decide
        omega
    · obtain ⟨rfl, rfl⟩ := bool_split (show 2 * j' + b'.toNat = 2 * j + b.toNat by omega)
      rw [at_app hu] at hu'
      have := Option.some.inj hu'
      subst this
      exact ⟨ho, E.length, u ++ [b'], by simp, rfl, Nat.le_refl _⟩
  · rcases snoc_at hv with ⟨h1, hv⟩ | ⟨h1, rfl⟩
    · rcases h.org i v hv with q | ⟨a, b', c, d, l, r, s⟩
      · exact .inl q
      · exact .inr ⟨a, b', c, by omega, l, at_app r, s⟩
    · exact .inr ⟨j, b, u, by omega, by omega, at_app hu, rfl⟩
/-- where every word goes: it is met, or a side not looked at lies ahead -/
theorem UInv.goes (h : UInv M N E p) : ∀ (n : Nat) (x : List Bool), x.length ≤ n → (∃ (i : Nat) (v : List Bool), E[i]? = some v ∧ rc M N v = rc M N x ∧ code v ≤ code x) ∨
    ∃ (y z : List Bool) (c : Bool) (i : Nat) (v : List Bool), x = y ++ c :: z ∧ E[i]? = some v ∧ rc M N v = rc M N y ∧ code v ≤ code y ∧ p ≤ 2 * i + c.toNat
  | n, x, hn => by
    rcases snoc_cases x with rfl | ⟨x', b, rfl⟩
    · exact .inl ⟨0, [], h.e0, rfl, Nat.le_refl _⟩
    · cases n with
      | zero => simp at hn
      | succ n =>
        rcases h.goes n x' (by simpa using hn) with ⟨i, v, hv, e, hc⟩ | ⟨y, z, c, i, v, e, r⟩
        · by_cases q : 2 * i + b.toNat < p
          · obtain ⟨_, k, t, ht, et, hct⟩ := h.prc i b v q hv
            refine .inl ⟨k, t, ht, ?_, ?_⟩
            · rw [et]
              unfold rc at e ⊢
              have e' := Prod.mk.inj e
              rw [rn_snoc, rn_snoc, rn_snoc, rn_snoc, e'.1, e'.2]
            · rw [code_snoc] at hct ⊢
              omega
          · exact .inr ⟨x', [], b, i, v, rfl, hv, e, hc, by omega⟩
        · exact .inr ⟨y, z ++ [b], c, i, v, by rw [e]; simp, r⟩
theorem code_mono : ∀ (t x : List Bool), code x + t.length ≤ code (x ++ t)
  | [], x => by rw [List.append_nil]; exact Nat.le_refl _
  | d :: t, x => by
    have := code_mono t (x ++ [d])
    rw [code_snoc, List.append_assoc] at this
    have e2 : x ++ d :: t = x ++ ([d] ++ t) := rfl
    rw [e2, List.length_cons]
    omega
/-- what the next side shows parts the two: the word is the least -/
theorem UInv.found (h : UInv M N E p) {j : Nat} {b : Bool} {u : List Bool} (hp : p = 2 * j + b.toNat) (hu : E[j]? = some u) (ho : ot M (rn M 0 u) b ≠ ot N (rn N 0 u) b) : IsUnl M N (some (u ++ [b])) := by
  refine ⟨⟨u, b, rfl, ho⟩, fun w hw => ?_⟩
  obtain ⟨x, c, rfl, hd⟩ := hw
  have up : ∀ (i : Nat) (v : List Bool) (d : Bool), E[i]? = some v → p ≤ 2 * i + d.toNat → code (u ++ [b]) ≤ 2 * code v + 1 + d.toNat := fun i v d hv hle => by
    rw [code_snoc]
    have hb : b.toNat ≤ 1 := by cases b <;> decide
    have hd : d.toNat ≤ 1 := by cases d <;> decide
    by_cases e : j = i
    · subst e
      rw [hu] at hv
      have := Option.some.inj hv
      subst this
      omega
    · have := h.asc j i u v hu hv (by omega)
      omega
  rcases h.goes _ x (Nat.le_refl _) with ⟨i, v, hv, e, hc⟩ | ⟨y, z, d, i, v, e, hv, er, hc, hle⟩
  · unfold rc at e
    have e' := Prod.mk.inj e
    by_cases q : 2 * i + c.toNat < p
    · exfalso
      have := (h.prc i c v q hv).1
      rw [e'.1, e'.2] at this
      exact hd this
    · have := up i v c hv (by omega)
      rw [code_snoc x c]
      omega
  · have h1 := up i v d hv hle
    have h2 := code_mono z (y ++ [d])
    have h3 := code_mono [c] x
    have e2 : y ++ [d] ++ z = x := by rw [e]; simp
    rw [e2, code_snoc y d] at h2
    omega
/-- all sides are looked at: no word parts them -/
theorem UInv.done (h : UInv M N E p) (hp : p = 2 * E.length) : IsUnl M N none := fun w ⟨x, c, _, hd⟩ => by
  rcases h.goes _ x (Nat.le_refl _) with ⟨i, v, hv, e, hc⟩ | ⟨y, z, d, i, v, e, hv, er, hc, hle⟩
  · unfold rc at e
    have e' := Prod.mk.inj e
    have il := (List.getElem?_eq_some_iff.mp hv).1
    have hc1 : c.toNat ≤ 1 := by cases c <;> decide
    have := (h.prc i c v (by omega) hv).1
    rw [e'.1, e'.2] at this
    exact hd this
  · have il := (List.getElem?_eq_some_iff.mp hv).1
    have hd1 : d.toNat ≤ 1 := by cases d <;> decide
    omega
theorem UInv.short (h : UInv M N E p) : ∀ (n i : Nat) (v : List Bool), i ≤ n → E[i]? = some v → v.length ≤ i
  | n, i, v, hn, hv => by
    rcases h.org i v hv with rfl | ⟨j, b, u, _, hji, hu, rfl⟩
    · have := h.e0
      rw [hv] at this
      rw [Option.some.inj this]
      exact Nat.le_refl _
    · cases n with
      | zero => omega
      | succ n =>
        have := h.short n j u (by omega) hu
        rw [List.length_append, List.length_singleton]
        omega
theorem UInv.few (h : UInv M N E p) (hM : Ok M) (hN : Ok N) : E.length ≤ M.length * N.length := by
  have lt : ∀ w, rn M 0 w < M.length ∧ rn N 0 w < N.length := fun w => ⟨hM.rn_lt w 0 hM.pos, hN.rn_lt w 0 hN.pos⟩
  refine pg2 (fun w => rn M 0 w * N.length + rn N 0 w) (M.length * N.length) E (nodup_of_ix _ fun i j x hi hj => ?_) fun w _ => ?_
  · rw [List.getElem?_map] at hi hj
    obtain ⟨u, hu, eu⟩ := Option.map_eq_some_iff.mp hi
    obtain ⟨v, hv, ev⟩ := Option.map_eq_some_iff.mp hj
    refine h.inj i j u v hu hv ?_
    have lu := lt u
    have lv := lt v
    have e : rn M 0 u * N.length + rn N 0 u = rn M 0 v * N.length + rn N 0 v := eu.trans ev.symm
    have e1 : rn M 0 u = rn M 0 v := by
      have h1 : (rn M 0 u * N.length + rn N 0 u) / N.length = rn M 0 u := by
        rw [Nat.mul_comm, Nat.mul_add_div (by omega), Nat.div_eq_of_lt lu.2, Nat.add_zero]
      have h2 : (rn M 0 v * N.length + rn N 0 v) / N.length = rn M 0 v := by
        rw [Nat.mul_comm, Nat.mul_add_div (by omega), Nat.div_eq_of_lt lv.2, Nat.add_zero]
      rw [← h1, ← h2, e]
    unfold rc
    rw [e1] at e ⊢
    have e2 : rn N 0 u = rn N 0 v := by omega
    rw [e2]
  · have l := lt w
    have h1 : rn M 0 w * N.length + N.length ≤ M.length * N.length := by
      rw [← Nat.succ_mul]
      exact Nat.mul_le_mul_right _ l.1
    omega
end
/-! ### a machine told otherwise -/
theorem hom {W M : Mach} (h : Nat → Nat) (hs : ∀ k b, k < W.length → ot W k b = ot M (h k) b ∧ h (go W k b) = go M (h k) b ∧ go W k b < W.length) {k : Nat} (hk : k < W.length) : Sm W k M (h k) := by
  refine Sm.coind (fun k j => k < W.length ∧ j = h k) (fun k j ⟨hk, e⟩ b => ?_) ⟨hk, rfl⟩
  obtain ⟨h1, h2, h3⟩ := hs k b hk
  subst e
  exact ⟨h1, h3, h2.symm⟩
/-! ### the machines that count -/
def cnt (n : Nat) : Mach := (List.range (n + 1)).map fun k => ((false, 0), (decide (k = n), min n (k + 1)))
theorem cnt_len (n : Nat) : (cnt n).length = n + 1 := by simp [cnt]
theorem cnt_at {n k : Nat} (h : k ≤ n) : (cnt n)[k]? = some ((false, 0), (decide (k = n), min n (k + 1))) := by
  unfold cnt
  rw [List.getElem?_map, List.getElem?_range (by omega)]
  rfl
theorem cnt_sd {n k : Nat} (h : k ≤ n) (b : Bool) : ot (cnt n) k b = (b && decide (k = n)) ∧ go (cnt n) k b = if b = true then min n (k + 1) else 0 := by
  unfold ot go
  rw [sd_some (cnt_at h)]
  cases b <;> simp
theorem cnt_ok (n : Nat) : Ok (cnt n) where
  pos := by rw [cnt_len]; omega
  lt := fun i b hi => by
    rw [cnt_len] at hi ⊢
    rw [(cnt_sd (by omega) b).2]
    split <;> omega
/-- how many were ON at the end -/
def trail (w : List Bool) : Nat := w.foldl (fun a b => if b = true then a + 1 else 0) 0
theorem trail_snoc (u : List Bool) (b : Bool) : trail (u ++ [b]) = if b = true then trail u + 1 else 0 := by
  unfold trail
  rw [List.foldl_append]
  rfl
theorem trail_le : ∀ (n : Nat) (w : List Bool), w.length ≤ n → trail w ≤ w.length
  | n, w, hn => by
    rcases snoc_cases w with rfl | ⟨u, b, rfl⟩
    · exact Nat.le_refl _
    · cases n with
      | zero => simp at hn
      | succ n =>
        have := trail_le n u (by simpa using hn)
        rw [trail_snoc, List.length_append, List.length_singleton]
        split <;> omega
theorem trail_all : ∀ (n : Nat) (w : List Bool), w.length ≤ n → trail w = w.length → w = List.replicate w.length true
  | n, w, hn, h => by
    rcases snoc_cases w with rfl | ⟨u, b, rfl⟩
    · rfl
    · cases n with
      | zero => simp at hn
      | succ n =>
        have hl := trail_le n u (by simpa using hn)
        rw [trail_snoc, List.length_append, List.length_singleton] at h
        cases b with
        | false => simp at h
        | true =>
          simp only [if_true] at h
          have := trail_all n u (by simpa using hn) (by omega)
          rw [List.length_append, List.length_singleton, List.replicate_succ', ← this]
theorem trail_rep (n : Nat) : trail (List.replicate n true) = n := by
  induction n with
  | zero => rfl
  | succ n ih => rw [List.replicate_succ', trail_snoc, ih]; simp
theorem cnt_rn (m : Nat) : ∀ (n : Nat) (w : List Bool), w.length ≤ n → rn (cnt m) 0 w = min m (trail w)
  | n, w, hn => by
    rcases snoc_cases w with rfl | ⟨u, b, rfl⟩
    · show 0 = min m 0
      omega
    · cases n with
      | zero => simp at hn
      | succ n =>
        rw [rn_snoc, cnt_rn m n u (by simpa using hn), trail_snoc, (cnt_sd (by omega) b).2]
        split <;> omega
theorem cnt_out (m : Nat) (w : List Bool) (b : Bool) : ot (cnt m) (rn (cnt m) 0 w) b = (b && decide (m ≤ trail w)) := by
  rw [cnt_rn m _ w (Nat.le_refl _), (cnt_sd (by omega) b).1]
  congr 1
  by_cases h : m ≤ trail w
  · rw [decide_eq_true h, decide_eq_true (by omega)]
  · rw [decide_eq_false h, decide_eq_false (by omega)]
theorem cnt_unl (n : Nat) : IsUnl (cnt n) (cnt (n + 1)) (some (List.replicate (n + 1) true)) := by
  have key : ∀ u b, ot (cnt n) (rn (cnt n) 0 u) b ≠ ot (cnt (n + 1)) (rn (cnt (n + 1)) 0 u) b ↔ b = true ∧ trail u = n := fun u b => by
    rw [cnt_out, cnt_out]
    cases b with
    | false => simp
    | true =>
      simp only [Bool.true_and, true_and]
      by_cases h : n ≤ trail u <;> by_cases h' : n + 1 ≤ trail u <;> simp [h, h'] <;> omega
  refine ⟨⟨List.replicate n true, true, List.replicate_succ' .., (key _ _).mpr ⟨rfl, trail_rep n⟩⟩, fun v hv => ?_⟩
  obtain ⟨u, b, rfl, hd⟩ := hv
  obtain ⟨rfl, ht⟩ := (key u b).mp hd
  have hl := trail_le _ u (Nat.le_refl _)
  have lower : ∀ (n : Nat) (w : List Bool), w.length ≤ n → 2 ^ w.length ≤ code w + 1 ∧ code w + 2 ≤ 2 ^ (w.length + 1) := by
    intro n
    induction n with
    | zero =>
      intro w hw
      have : w = [] := List.length_eq_zero_iff.mp (by omega)
      subst this
      exact ⟨Nat.le_refl _, Nat.le_refl _⟩
    | succ n ih =>
      intro w hw
      rcases snoc_cases w with rfl | ⟨x, c, rfl⟩
      · exact ⟨Nat.le_refl _, Nat.le_refl _⟩
      · obtain ⟨h1, h2⟩ := ih x (by simpa using hw)
        rw [code_snoc, List.length_append, List.length_singleton]
        have hc : c.toNat ≤ 1 := by cases c <;> decide
        have e1 : 2 ^ (x.length + 1) = 2 * 2 ^ x.length := by rw [Nat.pow_succ, Nat.mul_comm]
        have e2 : 2 ^ (x.length + 1 + 1) = 2 * 2 ^ (x.length + 1) := by rw [Nat.pow_succ, Nat.mul_comm]
        omega
  by_cases e : u.length = n
  · have := trail_all _ u (Nat.le_refl _) (by omega)
    rw [this, e, ← List.replicate_succ']
    exact Nat.le_refl _
  · have h1 := (lower _ (List.replicate (n + 1) true) (Nat.le_refl _)).2
    have h2 := (lower _ (u ++ [true]) (Nat.le_refl _)).1
    rw [List.length_replicate] at h1
    rw [List.length_append, List.length_singleton] at h2
    have h3 : 2 ^ (n + 1 + 1) ≤ 2 ^ (u.length + 1) := Nat.pow_le_pow_right (by decide) (by omega)
    omega
theorem cnt_lst (n : Nat) : IsLst (cnt n) (cnt n) := by
  have cn : ∀ t, t ≤ n + 1 → canon ((cnt n).take t) 1 = some (min (t + 1) (n + 1)) := by
    intro t
    induction t with
    | zero => intro _; show some 1 = some (min (0 + 1) (n + 1)); rw [show min (0 + 1) (n + 1) = 1 by omega]
    | succ t ih =>
      intro ht
      rw [take_next (cnt_at (n := n) (k := t) (by omega)), canon_append, ih (by omega)]
      show ((adv (min (t + 1) (n + 1)) 0).bind fun m1 => (adv m1 (min n (t + 1))).bind fun m2 => some m2) = _
      have e1 : adv (min (t + 1) (n + 1)) 0 = some (t + 1) := by
        unfold adv
        rw [if_pos (by omega)]
        congr 1
        omega
      rw [e1]
      show ((adv (t + 1) (min n (t + 1))).bind fun m2 => some m2) = _
      unfold adv
      by_cases h : t < n
      · rw [if_neg (by omega), if_pos (by omega)]
        show some (t + 1 + 1) = _
        congr 1
        omega
      · rw [if_pos (by omega)]
        show some (t + 1) = _
        congr 1
        omega
  have reach : ∀ i, i ≤ n → ∀ k, i + k ≤ n → rn (cnt n) i (List.replicate k true) = i + k := by
    intro i hi k
    induction k with
    | zero => intro _; rfl
    | succ k ih =>
      intro hk
      rw [List.replicate_succ', rn_snoc, ih (by omega), (cnt_sd (by omega) true).2]
      simp only [if_true]
      omega
  refine ⟨cnt_ok n, fun i j hi hj s => ?_, ?_, fun t ht => ?_, Sm.refl _ _⟩
  · rw [cnt_len] at hi hj
    have main : ∀ i j, i ≤ n → j ≤ n → Sm (cnt n) i (cnt n) j → ¬ i < j := fun i j hi hj s hij => by
      have h := s (List.replicate (n - j) true) true
      rw [reach i hi (n - j) (by omega), reach j hj (n - j) (by omega), (cnt_sd (by omega) true).1, (cnt_sd (by omega) true).1] at h
      rw [decide_eq_false (show ¬ (i + (n - j) = n) by omega), decide_eq_true (show j + (n - j) = n by omega)] at h
      simp at h
    have h1 := main i j (by omega) (by omega) s
    have h2 := main j i (by omega) (by omega) s.symm
    omega
  · have := cn (n + 1) (Nat.le_refl _)
    rw [List.take_of_length_le (by rw [cnt_len]; exact Nat.le_refl _)] at this
    rw [this, cnt_len]
    congr 1
    omega
  · rw [cnt_len] at ht
    exact ⟨_, cn t (by omega), by omega⟩
end KM
/-! K13Math3: rows, climbs, the states of the wide machine. Core Lean alone. -/
namespace KM
inductive LG where
  | on (n : Nat)
  | off (n : Nat)
  | mv (n : Nat)
  | slow (a b : Nat)
def LG.late : LG → Nat × Nat
  | .on n => (n, 0)
  | .off n => (0, n)
  | .mv n => (n, n)
  | .slow a b => (a, b)
def onSum : List LG → Nat
  | [] => 0
  | g :: r => g.late.1 + onSum r
def offSum : List LG → Nat
  | [] => 0
  | g :: r => g.late.2 + offSum r
theorem onSum_app : ∀ a b : List LG, onSum (a ++ b) = onSum a + onSum b
  | [], b => by simp [onSum]
  | g :: r, b => by show g.late.1 + onSum (r ++ b) = g.late.1 + onSum r + onSum b; rw [onSum_app r b]; omega
theorem offSum_app : ∀ a b : List LG, offSum (a ++ b) = offSum a + offSum b
  | [], b => by simp [offSum]
  | g :: r, b => by show g.late.2 + offSum (r ++ b) = g.late.2 + offSum r + offSum b; rw [offSum_app r b]; omega
theorem onSum_take {l : List LG} {i : Nat} {g : LG} (h : l[i]? = some g) : onSum (l.take (i + 1)) = onSum (l.take i) + g.late.1 := by rw [take_next h, onSum_app]; rfl
theorem offSum_take {l : List LG} {i : Nat} {g : LG} (h : l[i]? = some g) : offSum (l.take (i + 1)) = offSum (l.take i) + g.late.2 := by rw [take_next h, offSum_app]; rfl
theorem onSum_le (l : List LG) (i : Nat) : onSum (l.take i) ≤ onSum l := by
  have := onSum_app (l.take i) (l.drop i)
  rw [List.take_append_drop] at this
  omega
theorem offSum_le (l : List LG) (i : Nat) : offSum (l.take i) ≤ offSum l := by
  have := offSum_app (l.take i) (l.drop i)
  rw [List.take_append_drop] at this
  omega
/-! the climb -/
abbrev Rn1 := Bool × Int
structure FS where
  h : Int
  d : Int
  cur : Int
  D : Int
def goal (s : FS) (r : Rn1) : Int := if r.1 = true then s.h + r.2 else -(s.d + r.2)
def fs1 (s : FS) (r : Rn1) : FS := ⟨if r.1 = true then s.h + r.2 else s.h, if r.1 = true then s.d else s.d + r.2, goal s r, s.D + max 0 (s.cur - goal s r)⟩
def fsR (rs : List Rn1) : FS := rs.foldl fs1 ⟨0, 0, 0, 0⟩
theorem fsR_snoc (rs : List Rn1) (r : Rn1) : fsR (rs ++ [r]) = fs1 (fsR rs) r := by unfold fsR; rw [List.foldl_append]; rfl
def addRun (rs : List Rn1) (r : Rn1) : List Rn1 := match rs.getLast? with
  | some q => if q.1 = r.1 then rs.dropLast ++ [(q.1, q.2 + r.2)] else rs ++ [r]
  | none => rs ++ [r]
theorem addRun_len (rs : List Rn1) (r : Rn1) : (addRun rs r).length ≤ rs.length + 1 := by
  unfold addRun
  cases h : rs.getLast? with
  | none => simp
  | some q =>
    simp only
    split
    · rw [List.length_append, List.length_dropLast, List.length_singleton]; omega
    · simp
theorem last_split {α : Type} {rs : List α} {q : α} (h : rs.getLast? = some q) : rs = rs.dropLast ++ [q] := by
  have hne : rs ≠ [] := fun e => by rw [e] at h; cases h
  rw [List.getLast?_eq_some_getLast hne] at h
  have e := Option.some.inj h
  rw [← e]
  exact (List.dropLast_concat_getLast hne).symm
theorem fsR_add (rs : List Rn1) (r : Rn1) (h0 : 0 ≤ r.2) : (fsR (addRun rs r)).h = (fs1 (fsR rs) r).h ∧ (fsR (addRun rs r)).d = (fs1 (fsR rs) r).d ∧ (fsR (addRun rs r)).cur = (fs1 (fsR rs) r).cur ∧ (fsR (addRun rs r)).D ≤ (fs1 (fsR rs) r).D := by
  unfold addRun
  cases h : rs.getLast? with
  | none => dsimp only; rw [fsR_snoc]; exact ⟨rfl, rfl, rfl, Int.le_refl _⟩
  | some q =>
    simp only
    split
    · rename_i e
      have es := last_split h
      obtain ⟨qw, qn⟩ := q
      obtain ⟨rw', rn'⟩ := r
      simp only at e h0
      subst e
      have e2 : fsR rs = fs1 (fsR rs.dropLast) (qw, qn) := by rw [es, fsR_snoc]; simp
      rw [e2, fsR_snoc]
      generalize fsR rs.dropLast = s
      obtain ⟨a, b, c, d⟩ := s
      cases qw <;> simp only [fs1, goal, if_true, if_false, Bool.false_eq_true] <;> refine ⟨?_, ?_, ?_, ?_⟩ <;> first | exact True.intro | omega
    · rw [fsR_snoc]; exact ⟨rfl, rfl, rfl, Int.le_refl _⟩
structure LadI (rs : List Rn1) (h d lead on : Int) : Prop where
  eh : (fsR rs).h = h
  ed : (fsR rs).d = d
  l1 : -d ≤ lead
  l2 : lead ≤ h
  c1 : -d ≤ (fsR rs).cur
  c2 : (fsR rs).cur ≤ h
  D : (fsR rs).D + max 0 ((fsR rs).cur - lead) ≤ on
theorem LadI.zero : LadI [] 0 0 0 0 := ⟨rfl, rfl, by decide, by decide, by decide, by decide, by decide⟩
section
variable {rs : List Rn1} {h d lead on : Int}
theorem LadI.up (I : LadI rs h d lead on) {l2 a b : Int} (e : l2 = lead + b - a) (ha : 0 ≤ a) (hb : 0 ≤ b) (hl : h < l2) : LadI (addRun rs (true, l2 - h)) l2 d l2 (on + a) := by
  obtain ⟨i1, i2, i3, i4, i5, i6, i7⟩ := I
  obtain ⟨g1, g2, g3, g4⟩ := fsR_add rs (true, l2 - h) (by show 0 ≤ l2 - h; omega)
  simp only [fs1, goal, if_true, i1, i2] at g1 g2 g3 g4
  refine ⟨?_, ?_, ?_, ?_, ?_, ?_, ?_⟩ <;> omega
theorem LadI.down (I : LadI rs h d lead on) {l2 a b : Int} (e : l2 = lead + b - a) (ha : 0 ≤ a) (hb : 0 ≤ b) (hl : l2 < -d) : LadI (addRun rs (false, -l2 - d)) h (-l2) l2 (on + a) := by
  obtain ⟨i1, i2, i3, i4, i5, i6, i7⟩ := I
  obtain ⟨g1, g2, g3, g4⟩ := fsR_add rs (false, -l2 - d) (by show 0 ≤ -l2 - d; omega)
  simp only [fs1, goal, Bool.false_eq_true, if_false, i1, i2] at g1 g2 g3 g4
  refine ⟨?_, ?_, ?_, ?_, ?_, ?_, ?_⟩ <;> omega
theorem LadI.stay (I : LadI rs h d lead on) {l2 a b : Int} (e : l2 = lead + b - a) (ha : 0 ≤ a) (hb : 0 ≤ b) (h1 : ¬ h < l2) (h2 : ¬ l2 < -d) : LadI rs h d l2 (on + a) := by
  obtain ⟨i1, i2, i3, i4, i5, i6, i7⟩ := I
  refine ⟨?_, ?_, ?_, ?_, ?_, ?_, ?_⟩ <;> omega
end
/-! turnings and gates -/
def desc : Int → List Int → Int
  | _, [] => 0
  | l, g :: t => max 0 (l - g) + desc g t
def lastD : Int → List Int → Int
  | l, [] => l
  | _, g :: t => lastD g t
theorem desc_snoc (x : Int) : ∀ (t : List Int) (l : Int), desc l (t ++ [x]) = desc l t + max 0 (lastD l t - x)
  | [], l => by simp [desc, lastD]
  | g :: t, l => by
    show max 0 (l - g) + desc g (t ++ [x]) = max 0 (l - g) + desc g t + max 0 (lastD g t - x)
    rw [desc_snoc x t]; omega
theorem lastD_snoc (x : Int) : ∀ (t : List Int) (l : Int), lastD l (t ++ [x]) = x
  | [], l => rfl
  | g :: t, l => lastD_snoc x t g
def gt (lead g : Int) : LG := if lead < g then .off (g - lead).toNat else .on (lead - g).toNat
def gates : Int → List Int → List LG
  | _, [] => []
  | l, g :: t => gt l g :: gates g t
theorem gates_snoc (x : Int) : ∀ (t : List Int) (l : Int), gates l (t ++ [x]) = gates l t ++ [gt (lastD l t) x]
  | [], l => rfl
  | g :: t, l => by
    show gt l g :: gates g (t ++ [x]) = _
    rw [gates_snoc x t]; rfl
theorem gt_on (l g : Int) : ((gt l g).late.1 : Int) = max 0 (l - g) := by
  unfold gt
  split <;> simp only [LG.late] <;> omega
theorem gt_off (l g : Int) : ((gt l g).late.2 : Int) = max 0 (l - g) + g - l := by
  unfold gt
  split <;> simp only [LG.late] <;> omega
theorem gates_on : ∀ (t : List Int) (l : Int), (onSum (gates l t) : Int) = desc l t
  | [], l => rfl
  | g :: t, l => by
    show (((gt l g).late.1 + onSum (gates g t) : Nat) : Int) = max 0 (l - g) + desc g t
    have := gates_on t g
    have := gt_on l g
    omega
theorem gates_off : ∀ (t : List Int) (l : Int), (offSum (gates l t) : Int) = desc l t + lastD l t - l
  | [], l => by simp [gates, offSum, desc, lastD]
  | g :: t, l => by
    show (((gt l g).late.2 + offSum (gates g t) : Nat) : Int) = max 0 (l - g) + desc g t + lastD g t - l
    have := gates_off t g
    have := gt_off l g
    omega
theorem gates_len : ∀ (t : List Int) (l : Int), (gates l t).length = t.length
  | [], _ => rfl
  | g :: t, l => by show (gates g t).length + 1 = t.length + 1; rw [gates_len t]
/-- the plain gates: no slow ones, moved ones by one tick or more -/
def Plain : LG → Prop
  | .on _ => True
  | .off _ => True
  | .mv n => 1 ≤ n
  | .slow _ _ => False
theorem gt_plain (l g : Int) : Plain (gt l g) := by unfold gt; split <;> exact True.intro
theorem gates_plain : ∀ (t : List Int) (l : Int), ∀ g ∈ gates l t, Plain g
  | [], _, g, h => nomatch h
  | x :: t, l, g, h => by
    rcases List.mem_cons.mp h with rfl | h
    · exact gt_plain _ _
    · exact gates_plain t x g h
/-- the turnings of a ladder and its end -/
def turn1 (s : FS × List Int) (r : Rn1) : FS × List Int := (fs1 s.1 r, s.2 ++ [goal s.1 r])
def turns (rs : List Rn1) : List Int := (rs.foldl turn1 (⟨0, 0, 0, 0⟩, [])).2
theorem turns_snoc (rs : List Rn1) (r : Rn1) : rs.foldl turn1 (⟨0, 0, 0, 0⟩, []) = (fsR rs, turns rs) ∧ turns (rs ++ [r]) = turns rs ++ [goal (fsR rs) r] := by
  have h1 : ∀ (rs : List Rn1) (s : FS) (f : List Int), (rs.foldl turn1 (s, f)).1 = rs.foldl fs1 s := by
    intro rs
    induction rs with
    | nil => intro s f; rfl
    | cons r rs ih => intro s f; exact ih _ _
  have h2 : rs.foldl turn1 (⟨0, 0, 0, 0⟩, []) = (fsR rs, turns rs) := Prod.ext (h1 rs _ _) rfl
  refine ⟨h2, ?_⟩
  show ((rs ++ [r]).foldl turn1 (⟨0, 0, 0, 0⟩, [])).2 = _
  rw [List.foldl_append, h2]
  rfl
theorem rev_ind {α : Type} {p : List α → Prop} (h0 : p []) (h1 : ∀ l x, p l → p (l ++ [x])) : ∀ l, p l := fun l => by
  have h : ∀ (n : Nat) (l : List α), l.length = n → p l := by
    intro n
    induction n with
    | zero => intro l e; rw [List.length_eq_zero_iff.mp e]; exact h0
    | succ n ih =>
      intro l e
      have hne : l ≠ [] := fun z => by rw [z] at e; cases e
      rw [← List.dropLast_concat_getLast hne]
      exact h1 _ _ (ih _ (by rw [List.length_dropLast]; omega))
  exact h _ l rfl
theorem turns_ok : ∀ rs : List Rn1, desc 0 (turns rs) = (fsR rs).D ∧ lastD 0 (turns rs) = (fsR rs).cur ∧ (turns rs).length = rs.length :=
  rev_ind ⟨rfl, rfl, rfl⟩ fun rs r ih => by
    obtain ⟨i1, i2, i3⟩ := ih
    rw [(turns_snoc rs r).2, desc_snoc, lastD_snoc, fsR_snoc, i1, i2, List.length_append, i3, List.length_append]
    exact ⟨rfl, rfl, rfl⟩
def ends (rs : List Rn1) (last : Int) : List Int := if last ≠ (fsR rs).cur then turns rs ++ [last] else turns rs
theorem ends_ok (rs : List Rn1) (last : Int) : desc 0 (ends rs last) = (fsR rs).D + max 0 ((fsR rs).cur - last) ∧ lastD 0 (ends rs last) = last ∧ (ends rs last).length ≤ rs.length + 1 := by
  obtain ⟨i1, i2, i3⟩ := turns_ok rs
  unfold ends
  by_cases h : last ≠ (fsR rs).cur
  · rw [if_pos h, desc_snoc, lastD_snoc, i1, i2, List.length_append, i3]
    exact ⟨rfl, rfl, Nat.le_refl _⟩
  · rw [if_neg h, i1, i2, i3]
    have e := Classical.not_not.mp h
    refine ⟨by omega, e.symm, by omega⟩
/-- the normal gates: lacking is no debt, and the sums stay -/
theorem normal_ok {rs : List Rn1} {h d lead on off : Int} (I : LadI rs h d lead on) (e : lead = off - on) :
    0 ≤ on - desc 0 (ends rs lead) ∧ (onSum (gates 0 (ends rs lead)) : Int) = desc 0 (ends rs lead) ∧ (onSum (gates 0 (ends rs lead)) : Int) + (offSum (gates 0 (ends rs lead)) : Int) + 2 * (on - desc 0 (ends rs lead)) = on + off := by
  obtain ⟨e1, e2, e3⟩ := ends_ok rs lead
  have g1 := gates_on (ends rs lead) 0
  have g2 := gates_off (ends rs lead) 0
  have := I.D
  rw [e2] at g2
  refine ⟨by omega, g1, by omega⟩
/-! states of the wide machine -/
inductive SG where
  | num (n : Nat)
  | bits (l : List Bool)
def SOk : LG → SG → Prop
  | .on n, .num k => k ≤ n
  | .off n, .num k => k ≤ n
  | .mv n, .bits l => l.length = n ∧ 1 ≤ n
  | _, _ => False
def bc : List Bool → Nat
  | [] => 0
  | b :: t => b.toNat + 2 * bc t
theorem bc_lt : ∀ l : List Bool, bc l < 2 ^ l.length
  | [] => by decide
  | b :: t => by
    have := bc_lt t
    show b.toNat + 2 * bc t < 2 ^ (t.length + 1)
    rw [Nat.pow_succ]
    have : b.toNat ≤ 1 := by cases b <;> decide
    omega
theorem bc_inj : ∀ l m : List Bool, l.length = m.length → bc l = bc m → l = m
  | [], [], _, _ => rfl
  | [], _ :: _, h, _ => nomatch h
  | _ :: _, [], h, _ => nomatch h
  | b :: t, c :: u, h, e => by
    have e' : b.toNat + 2 * bc t = c.toNat + 2 * bc u := e
    have h' : t.length = u.length := Nat.succ.inj h
    have e1 : b = c ∧ bc t = bc u := by cases b <;> cases c <;> simp at e' ⊢ <;> omega
    rw [e1.1, bc_inj t u h' e1.2]
def sc : SG → Nat
  | .num k => k
  | .bits l => bc l
def cap : LG → Nat
  | .on n => 2 ^ n
  | .off n => 2 ^ n
  | .mv n => 2 ^ n
  | .slow _ _ => 1
theorem sc_lt {g : LG} {s : SG} (h : SOk g s) : sc s < cap g := by
  cases g <;> cases s <;> simp only [SOk] at h
  · exact Nat.lt_of_le_of_lt h Nat.lt_two_pow_self
  · exact Nat.lt_of_le_of_lt h Nat.lt_two_pow_self
  · have := bc_lt (by assumption)
    rw [h.1] at this
    exact this
theorem sc_inj {g : LG} {s t : SG} (h : SOk g s) (k : SOk g t) (e : sc s = sc t) : s = t := by
  cases g <;> cases s <;> cases t <;> simp only [SOk] at h k <;> simp only [sc] at e
  · rw [e]
  · rw [e]
  · rw [bc_inj _ _ (h.1.trans k.1.symm) e]
def SsOk : List LG → List SG → Prop
  | [], [] => True
  | g :: gs, s :: ss => SOk g s ∧ SsOk gs ss
  | _, _ => False
def scs : List LG → List SG → Nat
  | g :: gs, s :: ss => sc s + cap g * scs gs ss
  | _, _ => 0
def caps : List LG → Nat
  | [] => 1
  | g :: gs => cap g * caps gs
theorem mix_lt {a c x C : Nat} (h : a < c) (k : x < C) : a + c * x < c * C := by
  have : c * (x + 1) ≤ c * C := Nat.mul_le_mul_left c k
  rw [Nat.mul_succ] at this
  omega
theorem mix_inj {a b c x y : Nat} (ha : a < c) (hb : b < c) (e : a + c * x = b + c * y) : a = b ∧ x = y := by
  have h1 : (a + c * x) % c = a := by rw [Nat.add_mul_mod_self_left, Nat.mod_eq_of_lt ha]
  have h2 : (b + c * y) % c = b := by rw [Nat.add_mul_mod_self_left, Nat.mod_eq_of_lt hb]
  have e1 : a = b := by rw [← h1, ← h2, e]
  subst e1
  have : c * x = c * y := by omega
  exact ⟨rfl, Nat.eq_of_mul_eq_mul_left (by omega) this⟩
theorem scs_lt : ∀ (gs : List LG) (ss : List SG), SsOk gs ss → scs gs ss < caps gs
  | [], [], _ => by decide
  | g :: gs, s :: ss, h => mix_lt (sc_lt h.1) (scs_lt gs ss h.2)
  | [], _ :: _, h => h.elim
  | _ :: _, [], h => h.elim
theorem scs_inj : ∀ (gs : List LG) (ss ts : List SG), SsOk gs ss → SsOk gs ts → scs gs ss = scs gs ts → ss = ts
  | [], [], [], _, _, _ => rfl
  | g :: gs, s :: ss, t :: ts, h, k, e => by
    obtain ⟨e1, e2⟩ := mix_inj (sc_lt h.1) (sc_lt k.1) e
    rw [sc_inj h.1 k.1 e1, scs_inj gs ss ts h.2 k.2 e2]
  | [], _ :: _, _, h, _, _ => h.elim
  | _ :: _, [], _, h, _, _ => h.elim
  | [], [], _ :: _, _, k, _ => k.elim
  | _ :: _, _ :: _, [], _, k, _ => k.elim
theorem caps_le : ∀ gs : List LG, (∀ g ∈ gs, Plain g) → caps gs ≤ 2 ^ (onSum gs + offSum gs)
  | [], _ => by decide
  | g :: gs, h => by
    have ih := caps_le gs fun x hx => h x (List.mem_cons_of_mem _ hx)
    have hg : cap g ≤ 2 ^ (g.late.1 + g.late.2) := by
      cases g with
      | on n => exact Nat.le_refl _
      | off n => show 2 ^ n ≤ 2 ^ (0 + n); rw [Nat.zero_add]; exact Nat.le_refl _
      | mv n => exact Nat.pow_le_pow_right (by decide) (Nat.le_add_right _ _)
      | slow a b => exact Nat.one_le_two_pow
    have e : onSum (g :: gs) + offSum (g :: gs) = (g.late.1 + g.late.2) + (onSum gs + offSum gs) := by
      show g.late.1 + onSum gs + (g.late.2 + offSum gs) = _
      omega
    rw [e, Nat.pow_add]
    exact Nat.mul_le_mul hg ih
theorem states_few {gs : List LG} {A : List (List SG)} (hg : ∀ g ∈ gs, Plain g) (hs : onSum gs + offSum gs ≤ 8) (hA : ∀ s ∈ A, SsOk gs s) (hn : A.Nodup) : A.length ≤ 256 := by
  have h1 : A.length ≤ caps gs := by
    refine pg2 (scs gs) _ A ?_ fun x hx => scs_lt gs x (hA x hx)
    clear hg hs
    induction A with
    | nil => exact List.nodup_nil
    | cons x A ih =>
      rw [List.map_cons, List.nodup_cons]
      rw [List.nodup_cons] at hn
      refine ⟨fun h => ?_, ih (fun s hs => hA s (List.mem_cons_of_mem _ hs)) hn.2⟩
      obtain ⟨y, hy, e⟩ := List.mem_map.mp h
      have := scs_inj gs y x (hA y (List.mem_cons_of_mem _ hy)) (hA x List.mem_cons_self) e
      exact hn.1 (this ▸ hy)
  have h2 := caps_le gs hg
  have h3 : 2 ^ (onSum gs + offSum gs) ≤ 2 ^ 8 := Nat.pow_le_pow_right (by decide) hs
  have h4 : (2 : Nat) ^ 8 = 256 := by decide
  omega
/-! one step -/
def gStep : LG → SG → Bool → Bool × SG
  | .mv _, .bits l, b => (l.headD false, .bits (l.tail ++ [b]))
  | .on n, .num k, b => (b && decide (k = n), .num (if b = true then min n (k + 1) else 0))
  | .off n, .num k, b => (b || decide (k < n), .num (if b = true then 0 else min n (k + 1)))
  | _, s, b => (b, s)
def rStep : List LG → List SG → Bool → Bool × List SG
  | g :: gs, s :: ss, b => ((rStep gs ss (gStep g s b).1).1, (gStep g s b).2 :: (rStep gs ss (gStep g s b).1).2)
  | _, _, b => (b, [])
def gFirst : LG → SG
  | .mv n => .bits (List.replicate n false)
  | .off n => .num n
  | _ => .num 0
theorem gStep_ok {g : LG} {s : SG} (b : Bool) (h : SOk g s) : SOk g (gStep g s b).2 := by
  cases g <;> cases s <;> simp only [SOk] at h <;> simp only [gStep, SOk]
  · split <;> omega
  · split <;> omega
  · refine ⟨?_, h.2⟩
    rw [List.length_append, List.length_tail, List.length_singleton, h.1]
    omega
theorem rStep_ok : ∀ (gs : List LG) (ss : List SG) (b : Bool), SsOk gs ss → SsOk gs (rStep gs ss b).2
  | [], [], _, h => True.intro
  | g :: gs, s :: ss, b, h => ⟨gStep_ok b h.1, rStep_ok gs ss _ h.2⟩
  | [], _ :: _, _, h => h.elim
  | _ :: _, [], _, h => h.elim
theorem gFirst_ok {g : LG} (h : Plain g) : SOk g (gFirst g) := by
  cases g with
  | on n => exact Nat.zero_le n
  | off n => exact Nat.le_refl n
  | mv n => exact ⟨List.length_replicate, h⟩
  | slow a b => exact h.elim
theorem first_ok : ∀ gs : List LG, (∀ g ∈ gs, Plain g) → SsOk gs (gs.map gFirst)
  | [], _ => True.intro
  | g :: gs, h => ⟨gFirst_ok (h g List.mem_cons_self), first_ok gs fun x hx => h x (List.mem_cons_of_mem _ hx)⟩
theorem SsOk.at : ∀ {gs : List LG} {ss : List SG} {i : Nat} {g : LG} {s : SG}, SsOk gs ss → gs[i]? = some g → ss[i]? = some s → SOk g s
  | g :: gs, s :: ss, 0, _, _, h, hg, hs => by cases hg; cases hs; exact h.1
  | g :: gs, s :: ss, i + 1, _, _, h, hg, hs => SsOk.at (gs := gs) (ss := ss) (i := i) h.2 hg hs
  | [], _, i, _, _, _, hg, _ => by simp at hg
  | _ :: _, [], i, _, _, _, _, hs => by simp at hs
theorem SsOk.len : ∀ {gs : List LG} {ss : List SG}, SsOk gs ss → gs.length = ss.length
  | [], [], _ => rfl
  | g :: gs, s :: ss, h => by show gs.length + 1 = ss.length + 1; rw [SsOk.len (gs := gs) (ss := ss) h.2]
  | [], _ :: _, h => h.elim
  | _ :: _, [], h => h.elim
theorem SsOk.take : ∀ {gs : List LG} {ss : List SG} (i : Nat), SsOk gs ss → SsOk (gs.take i) (ss.take i)
  | _, _, 0, _ => by rw [List.take_zero, List.take_zero]; exact True.intro
  | [], [], i + 1, _ => True.intro
  | g :: gs, s :: ss, i + 1, h => ⟨h.1, SsOk.take i h.2⟩
  | [], _ :: _, _ + 1, h => h.elim
  | _ :: _, [], _ + 1, h => h.elim
/-- a row's step by turns: what has been passed at turn i -/
theorem rStep_app : ∀ (gs hs : List LG) (ss ts : List SG) (b : Bool), gs.length = ss.length →
    rStep (gs ++ hs) (ss ++ ts) b = ((rStep hs ts (rStep gs ss b).1).1, (rStep gs ss b).2 ++ (rStep hs ts (rStep gs ss b).1).2)
  | [], hs, [], ts, b, _ => rfl
  | g :: gs, hs, s :: ss, ts, b, h => by
    have ih := rStep_app gs hs ss ts (gStep g s b).1 (Nat.succ.inj h)
    show ((rStep (gs ++ hs) (ss ++ ts) (gStep g s b).1).1, (gStep g s b).2 :: (rStep (gs ++ hs) (ss ++ ts) (gStep g s b).1).2) = _
    rw [ih]
    rfl
  | [], _, _ :: _, _, _, h => nomatch h
  | _ :: _, _, [], _, _, h => nomatch h
end KM
namespace K13
open PySem PySem.Spec PyProof.Rows L2
/-! the text: places of the defs in the row's top, their names by slots (printed by gen.py) -/
def topS (i : Nat) : Stmt := PySem.Challenge.pw_lateedges_k13_whole_least_machines.main.body.getD i (.Pass ⟨0, 0, 0, 0⟩)
abbrev s_TooMany_init : Stmt := inClass (topS 6) 0
abbrev n_TooMany_init : List Str := ["self", "most"]
theorem c_TooMany_init : FnScope n_TooMany_init ["self", "most"] (defScope s_TooMany_init) := ⟨rfl, rfl, rfl, by decide +kernel, rfl, by decide +kernel, by decide +kernel⟩
abbrev s_is_integer : Stmt := topS 8
abbrev n_is_integer : List Str := ["thing"]
theorem c_is_integer : FnScope n_is_integer ["thing"] (defScope s_is_integer) := ⟨rfl, rfl, rfl, by decide +kernel, rfl, by decide +kernel, by decide +kernel⟩
abbrev s_is_flag : Stmt := topS 9
abbrev n_is_flag : List Str := ["thing"]
theorem c_is_flag : FnScope n_is_flag ["thing"] (defScope s_is_flag) := ⟨rfl, rfl, rfl, by decide +kernel, rfl, by decide +kernel, by decide +kernel⟩
abbrev s_is_within : Stmt := topS 10
abbrev n_is_within : List Str := ["thing", "least", "most"]
theorem c_is_within : FnScope n_is_within ["thing", "least", "most"] (defScope s_is_within) := ⟨rfl, rfl, rfl, by decide +kernel, rfl, by decide +kernel, by decide +kernel⟩
abbrev s_is_listed : Stmt := topS 11
abbrev n_is_listed : List Str := ["thing"]
theorem c_is_listed : FnScope n_is_listed ["thing"] (defScope s_is_listed) := ⟨rfl, rfl, rfl, by decide +kernel, rfl, by decide +kernel, by decide +kernel⟩
abbrev s_is_pair : Stmt := topS 12
abbrev n_is_pair : List Str := ["thing"]
theorem c_is_pair : FnScope n_is_pair ["thing"] (defScope s_is_pair) := ⟨rfl, rfl, rfl, by decide +kernel, rfl, by decide +kernel, by decide +kernel⟩
abbrev s_is_amount : Stmt := topS 15
abbrev n_is_amount : List Str := ["thing"]
theorem c_is_amount : FnScope n_is_amount ["thing"] (defScope s_is_amount) := ⟨rfl, rfl, rfl, by decide +kernel, rfl, by decide +kernel, by decide +kernel⟩
abbrev s_is_gate : Stmt := topS 16
abbrev n_is_gate : List Str := ["thing"]
theorem c_is_gate : FnScope n_is_gate ["thing"] (defScope s_is_gate) := ⟨rfl, rfl, rfl, by decide +kernel, rfl, by decide +kernel, by decide +kernel⟩
abbrev s_is_block : Stmt := topS 17
abbrev n_is_block : List Str := ["thing", "deep"]
theorem c_is_block : FnScope n_is_block ["thing", "deep"] (defScope s_is_block) := ⟨rfl, rfl, rfl, by decide +kernel, rfl, by decide +kernel, by decide +kernel⟩
abbrev s_is_row_of : Stmt := topS 18
abbrev n_is_row_of : List Str := ["thing", "deep", "part"]
theorem c_is_row_of : FnScope n_is_row_of ["thing", "deep"] (defScope s_is_row_of) := ⟨rfl, rfl, rfl, by decide +kernel, rfl, by decide +kernel, by decide +kernel⟩
abbrev s_is_told_row : Stmt := topS 19
abbrev n_is_told_row : List Str := ["thing"]
theorem c_is_told_row : FnScope n_is_told_row ["thing"] (defScope s_is_told_row) := ⟨rfl, rfl, rfl, by decide +kernel, rfl, by decide +kernel, by decide +kernel⟩
abbrev s_check_row : Stmt := topS 20
abbrev n_check_row : List Str := ["thing"]
theorem c_check_row : FnScope n_check_row ["thing"] (defScope s_check_row) := ⟨rfl, rfl, rfl, by decide +kernel, rfl, by decide +kernel, by decide +kernel⟩
abbrev s_late_by : Stmt := topS 21
abbrev n_late_by : List Str := ["gate"]
theorem c_late_by : FnScope n_late_by ["gate"] (defScope s_late_by) := ⟨rfl, rfl, rfl, by decide +kernel, rfl, by decide +kernel, by decide +kernel⟩
abbrev s_sums_of : Stmt := topS 22
abbrev n_sums_of : List Str := ["row", "on_sum", "off_sum", "part", "many", "mine"]
theorem c_sums_of : FnScope n_sums_of ["row"] (defScope s_sums_of) := ⟨rfl, rfl, rfl, by decide +kernel, rfl, by decide +kernel, by decide +kernel⟩
abbrev s_Climb_init : Stmt := inClass (topS 24) 0
abbrev n_Climb_init : List Str := ["self"]
theorem c_Climb_init : FnScope n_Climb_init ["self"] (defScope s_Climb_init) := ⟨rfl, rfl, rfl, by decide +kernel, rfl, by decide +kernel, by decide +kernel⟩
abbrev s_Climb_note : Stmt := inClass (topS 24) 1
abbrev n_Climb_note : List Str := ["self", "word", "many"]
theorem c_Climb_note : FnScope n_Climb_note ["self", "word", "many"] (defScope s_Climb_note) := ⟨rfl, rfl, rfl, by decide +kernel, rfl, by decide +kernel, by decide +kernel⟩
abbrev s_Climb_go_to : Stmt := inClass (topS 24) 2
abbrev n_Climb_go_to : List Str := ["self", "lead"]
theorem c_Climb_go_to : FnScope n_Climb_go_to ["self", "lead"] (defScope s_Climb_go_to) := ⟨rfl, rfl, rfl, by decide +kernel, rfl, by decide +kernel, by decide +kernel⟩
abbrev s_Climb_go_along : Stmt := inClass (topS 24) 3
abbrev n_Climb_go_along : List Str := ["self", "other", "begin", "high", "deep", "word", "many"]
theorem c_Climb_go_along : FnScope n_Climb_go_along ["self", "other"] (defScope s_Climb_go_along) := ⟨rfl, rfl, rfl, by decide +kernel, rfl, by decide +kernel, by decide +kernel⟩
abbrev s_Climb_go_again : Stmt := inClass (topS 24) 4
abbrev n_Climb_go_again : List Str := ["self", "other", "many", "begin", "last"]
theorem c_Climb_go_again : FnScope n_Climb_go_again ["self", "other", "many"] (defScope s_Climb_go_again) := ⟨rfl, rfl, rfl, by decide +kernel, rfl, by decide +kernel, by decide +kernel⟩
abbrev s_climb_of : Stmt := topS 25
abbrev n_climb_of : List Str := ["row", "climb", "part", "on_late", "off_late"]
theorem c_climb_of : FnScope n_climb_of ["row"] (defScope s_climb_of) := ⟨rfl, rfl, rfl, by decide +kernel, rfl, by decide +kernel, by decide +kernel⟩
abbrev s_ladder_of : Stmt := topS 26
abbrev n_ladder_of : List Str := ["row"]
theorem c_ladder_of : FnScope n_ladder_of ["row"] (defScope s_ladder_of) := ⟨rfl, rfl, rfl, by decide +kernel, rfl, by decide +kernel, by decide +kernel⟩
abbrev s_shape_of : Stmt := topS 28
abbrev n_shape_of : List Str := ["row", "on_sum", "off_sum"]
theorem c_shape_of : FnScope n_shape_of ["row"] (defScope s_shape_of) := ⟨rfl, rfl, rfl, by decide +kernel, rfl, by decide +kernel, by decide +kernel⟩
abbrev s_gate_to : Stmt := topS 29
abbrev n_gate_to : List Str := ["lead", "goal"]
theorem c_gate_to : FnScope n_gate_to ["lead", "goal"] (defScope s_gate_to) := ⟨rfl, rfl, rfl, by decide +kernel, rfl, by decide +kernel, by decide +kernel⟩
abbrev s_turnings : Stmt := topS 30
abbrev n_turnings : List Str := ["told", "high", "deep", "found", "word", "many", "last"]
theorem c_turnings : FnScope n_turnings ["told"] (defScope s_turnings) := ⟨rfl, rfl, rfl, by decide +kernel, rfl, by decide +kernel, by decide +kernel⟩
abbrev s_normal_of : Stmt := topS 31
abbrev n_normal_of : List Str := ["told", "gates", "lead", "goal", "lacking", "word", "many"]
theorem c_normal_of : FnScope n_normal_of ["told"] (defScope s_normal_of) := ⟨rfl, rfl, rfl, by decide +kernel, rfl, by decide +kernel, by decide +kernel⟩
abbrev s_looks_back : Stmt := topS 33
abbrev n_looks_back : List Str := ["row", "word", "ticks"]
theorem c_looks_back : FnScope n_looks_back ["row"] (defScope s_looks_back) := ⟨rfl, rfl, rfl, by decide +kernel, rfl, by decide +kernel, by decide +kernel⟩
abbrev s_is_side : Stmt := topS 37
abbrev n_is_side : List Str := ["thing", "many"]
theorem c_is_side : FnScope n_is_side ["thing", "many"] (defScope s_is_side) := ⟨rfl, rfl, rfl, by decide +kernel, rfl, by decide +kernel, by decide +kernel⟩
abbrev s_is_told_machine : Stmt := topS 38
abbrev n_is_told_machine : List Str := ["thing", "standing", "off", "on"]
theorem c_is_told_machine : FnScope n_is_told_machine ["thing"] (defScope s_is_told_machine) := ⟨rfl, rfl, rfl, by decide +kernel, rfl, by decide +kernel, by decide +kernel⟩
abbrev s_is_machine : Stmt := topS 39
abbrev n_is_machine : List Str := ["thing"]
theorem c_is_machine : FnScope n_is_machine ["thing"] (defScope s_is_machine) := ⟨rfl, rfl, rfl, by decide +kernel, rfl, by decide +kernel, by decide +kernel⟩
abbrev s_check_machine : Stmt := topS 40
abbrev n_check_machine : List Str := ["thing"]
theorem c_check_machine : FnScope n_check_machine ["thing"] (defScope s_check_machine) := ⟨rfl, rfl, rfl, by decide +kernel, rfl, by decide +kernel, by decide +kernel⟩
abbrev s_shown_by : Stmt := topS 41
abbrev n_shown_by : List Str := ["told", "flags", "flag", "standing", "found", "shows"]
theorem c_shown_by : FnScope n_shown_by ["told", "flags"] (defScope s_shown_by) := ⟨rfl, rfl, rfl, by decide +kernel, rfl, by decide +kernel, by decide +kernel⟩
abbrev s_at_first : Stmt := topS 42
abbrev n_at_first : List Str := ["gate", "word", "ticks"]
theorem c_at_first : FnScope n_at_first ["gate"] (defScope s_at_first) := ⟨rfl, rfl, rfl, by decide +kernel, rfl, by decide +kernel, by decide +kernel⟩
abbrev s_gate_step : Stmt := topS 43
abbrev n_gate_step : List Str := ["gate", "state", "flag", "word", "ticks"]
theorem c_gate_step : FnScope n_gate_step ["gate", "state", "flag"] (defScope s_gate_step) := ⟨rfl, rfl, rfl, by decide +kernel, rfl, by decide +kernel, by decide +kernel⟩
abbrev s_row_step : Stmt := topS 44
abbrev n_row_step : List Str := ["gates", "states", "flag", "later", "gate", "state", "now"]
theorem c_row_step : FnScope n_row_step ["gates", "states", "flag"] (defScope s_row_step) := ⟨rfl, rfl, rfl, by decide +kernel, rfl, by decide +kernel, by decide +kernel⟩
abbrev s_wide_machine : Stmt := topS 45
abbrev n_wide_machine : List Str := ["gates", "begin", "numbers", "waiting", "found", "sides", "flag", "shows", "later", "gate"]
theorem c_wide_machine : FnScope n_wide_machine ["gates"] (defScope s_wide_machine) := ⟨rfl, rfl, rfl, by decide +kernel, rfl, by decide +kernel, by decide +kernel⟩
abbrev s_numbered : Stmt := topS 46
abbrev n_numbered : List Str := ["signs", "known", "sign"]
theorem c_numbered : FnScope n_numbered ["signs"] (defScope s_numbered) := ⟨rfl, rfl, rfl, by decide +kernel, rfl, by decide +kernel, by decide +kernel⟩
abbrev s_kinds_of : Stmt := topS 47
abbrev n_kinds_of : List Str := ["told", "kinds", "many", "off", "on", "at"]
theorem c_kinds_of : FnScope n_kinds_of ["told"] (defScope s_kinds_of) := ⟨rfl, rfl, rfl, by decide +kernel, rfl, by decide +kernel, by decide +kernel⟩
abbrev s_least_of : Stmt := topS 48
abbrev n_least_of : List Str := ["told", "kinds", "order", "places", "found", "sides", "shows", "there"]
theorem c_least_of : FnScope n_least_of ["told"] (defScope s_least_of) := ⟨rfl, rfl, rfl, by decide +kernel, rfl, by decide +kernel, by decide +kernel⟩
abbrev s_check_few : Stmt := topS 49
abbrev n_check_few : List Str := ["row"]
theorem c_check_few : FnScope n_check_few ["row"] (defScope s_check_few) := ⟨rfl, rfl, rfl, by decide +kernel, rfl, by decide +kernel, by decide +kernel⟩
abbrev s_machine_of : Stmt := topS 50
abbrev n_machine_of : List Str := ["told"]
theorem c_machine_of : FnScope n_machine_of ["told"] (defScope s_machine_of) := ⟨rfl, rfl, rfl, by decide +kernel, rfl, by decide +kernel, by decide +kernel⟩
abbrev s_machine : Stmt := topS 51
abbrev n_machine : List Str := ["row"]
theorem c_machine : FnScope n_machine ["row"] (defScope s_machine) := ⟨rfl, rfl, rfl, by decide +kernel, rfl, by decide +kernel, by decide +kernel⟩
abbrev s_least : Stmt := topS 52
abbrev n_least : List Str := ["told"]
theorem c_least : FnScope n_least ["told"] (defScope s_least) := ⟨rfl, rfl, rfl, by decide +kernel, rfl, by decide +kernel, by decide +kernel⟩
abbrev s_flags_to : Stmt := topS 53
abbrev n_flags_to : List Str := ["came", "pair", "found", "flag"]
theorem c_flags_to : FnScope n_flags_to ["came", "pair"] (defScope s_flags_to) := ⟨rfl, rfl, rfl, by decide +kernel, rfl, by decide +kernel, by decide +kernel⟩
abbrev s_unlike_flags : Stmt := topS 54
abbrev n_unlike_flags : List Str := ["one", "other", "came", "waiting", "at", "pair", "flag", "mine", "its", "there"]
theorem c_unlike_flags : FnScope n_unlike_flags ["one", "other"] (defScope s_unlike_flags) := ⟨rfl, rfl, rfl, by decide +kernel, rfl, by decide +kernel, by decide +kernel⟩
abbrev s_Ltape : Stmt := topS 56
abbrev n_Ltape : List Str := ["_law_script"]
theorem c_Ltape : FnScope n_Ltape ["_law_script"] (defScope s_Ltape) := ⟨rfl, rfl, rfl, by decide +kernel, rfl, by decide +kernel, by decide +kernel⟩
abbrev s_Lpick : Stmt := topS 57
abbrev n_Lpick : List Str := ["_law_tape_here", "_law_many", "_law_digit", "_law_cell", "_law_mixed"]
theorem c_Lpick : FnScope n_Lpick ["_law_tape_here", "_law_many"] (defScope s_Lpick) := ⟨rfl, rfl, rfl, by decide +kernel, rfl, by decide +kernel, by decide +kernel⟩
abbrev s_Llive_row : Stmt := topS 58
abbrev n_Llive_row : List Str := ["_law_tape_here", "_law_most", "_law_found", "_law_left", "_law_turn", "_law_kind", "_law_n", "_law_a"]
theorem c_Llive_row : FnScope n_Llive_row ["_law_tape_here", "_law_most"] (defScope s_Llive_row) := ⟨rfl, rfl, rfl, by decide +kernel, rfl, by decide +kernel, by decide +kernel⟩
abbrev s_Lis_machine : Stmt := topS 59
abbrev n_Lis_machine : List Str := ["_law_thing", "_law_standing", "_law_side"]
theorem c_Lis_machine : FnScope n_Lis_machine ["_law_thing"] (defScope s_Lis_machine) := ⟨rfl, rfl, rfl, by decide +kernel, rfl, by decide +kernel, by decide +kernel⟩
abbrev s_Lkinds : Stmt := topS 60
abbrev n_Lkinds : List Str := ["_law_made", "_law_kinds_here", "_law_turn", "_law_signs", "_law_places", "_law_off", "_law_on", "_law_kind", "_law_at"]
theorem c_Lkinds : FnScope n_Lkinds ["_law_made"] (defScope s_Lkinds) := ⟨rfl, rfl, rfl, by decide +kernel, rfl, by decide +kernel, by decide +kernel⟩
abbrev s_Lcome_to : Stmt := topS 61
abbrev n_Lcome_to : List Str := ["_law_made", "_law_found", "_law_turn", "_law_side"]
theorem c_Lcome_to : FnScope n_Lcome_to ["_law_made"] (defScope s_Lcome_to) := ⟨rfl, rfl, rfl, by decide +kernel, rfl, by decide +kernel, by decide +kernel⟩
abbrev s_Lis_least : Stmt := topS 62
abbrev n_Lis_least : List Str := ["_law_made"]
theorem c_Lis_least : FnScope n_Lis_least ["_law_made"] (defScope s_Lis_least) := ⟨rfl, rfl, rfl, by decide +kernel, rfl, by decide +kernel, by decide +kernel⟩
abbrev s_Lmachine : Stmt := topS 63
abbrev n_Lmachine : List Str := ["_law_tape_here", "_law_many", "_law_found", "_law_at", "_law_shows"]
theorem c_Lmachine : FnScope n_Lmachine ["_law_tape_here"] (defScope s_Lmachine) := ⟨rfl, rfl, rfl, by decide +kernel, rfl, by decide +kernel, by decide +kernel⟩
abbrev s_Lwider : Stmt := topS 64
abbrev n_Lwider : List Str := ["_law_tape_here", "_law_made", "_law_many", "_law_sides", "_law_at", "_law_off", "_law_on", "_law_left", "_law_order", "_law_turn", "_law_found"]
theorem c_Lwider : FnScope n_Lwider ["_law_tape_here", "_law_made"] (defScope s_Lwider) := ⟨rfl, rfl, rfl, by decide +kernel, rfl, by decide +kernel, by decide +kernel⟩
abbrev s_Lunlike : Stmt := topS 65
abbrev n_Lunlike : List Str := ["_law_one", "_law_other", "_law_layer", "_law_met", "_law_turn", "_law_later", "_law_pair", "_law_flags", "_law_flag", "_law_mine", "_law_its"]
theorem c_Lunlike : FnScope n_Lunlike ["_law_one", "_law_other"] (defScope s_Lunlike) := ⟨rfl, rfl, rfl, by decide +kernel, rfl, by decide +kernel, by decide +kernel⟩
abbrev s_Lparted_right : Stmt := topS 66
abbrev n_Lparted_right : List Str := ["_law_one", "_law_other", "_law_due", "_law_told", "_law_mine", "_law_its", "_law_flag"]
theorem c_Lparted_right : FnScope n_Lparted_right ["_law_one", "_law_other"] (defScope s_Lparted_right) := ⟨rfl, rfl, rfl, by decide +kernel, rfl, by decide +kernel, by decide +kernel⟩
abbrev s_Lshown : Stmt := topS 67
abbrev n_Lshown : List Str := ["_law_made", "_law_flags", "_law_standing", "_law_found", "_law_flag", "_law_side"]
theorem c_Lshown : FnScope n_Lshown ["_law_made", "_law_flags"] (defScope s_Lshown) := ⟨rfl, rfl, rfl, by decide +kernel, rfl, by decide +kernel, by decide +kernel⟩
abbrev s_Lcounter : Stmt := topS 68
abbrev n_Lcounter : List Str := ["_law_n", "_law_at"]
theorem c_Lcounter : FnScope n_Lcounter ["_law_n"] (defScope s_Lcounter) := ⟨rfl, rfl, rfl, by decide +kernel, rfl, by decide +kernel, by decide +kernel⟩
abbrev s_Lcounters_right : Stmt := topS 69
abbrev n_Lcounters_right : List Str := ["_law_tape_here", "_law_n", "_law_one", "_law_other", "_law_due", "_law_flags", "_law_turn"]
theorem c_Lcounters_right : FnScope n_Lcounters_right ["_law_tape_here", "_law_n"] (defScope s_Lcounters_right) := ⟨rfl, rfl, rfl, by decide +kernel, rfl, by decide +kernel, by decide +kernel⟩
abbrev s_law : Stmt := topS 70
abbrev n_law : List Str := ["_law_script", "_law_tape_here", "_law_n", "_law_turn", "_law_one", "_law_told", "_law_wide", "_law_other", "_law_mine", "_law_its"]
theorem c_law : FnScope n_law ["_law_script"] (defScope s_law) := ⟨rfl, rfl, rfl, by decide +kernel, rfl, by decide +kernel, by decide +kernel⟩
end K13
/-! K13Base: data of tuples over the abstract heap (Dt), dicts whose keys are such data. -/
namespace K13
open PySem PySem.Spec PyProof.Rows L2
/-! ### data -/
mutual
/-- the value is this data: scalars and tuples, which never change -/
inductive Dt (H : Hp) : V → PyData → Prop
  | non : Dt H .non .none
  | bl (b : Bool) : Dt H (.bl b) (.bool b)
  | int (i : Int) : Dt H (.int i) (.int i)
  | str (x : Str) : Dt H (.str x) (.str x)
  | tup {a : Addr} {xs : List V} {ds : List PyData} : H a = some (.tup xs) → DtA H xs ds → Dt H (.ref a) (.tuple ds)
inductive DtA (H : Hp) : List V → List PyData → Prop
  | nil : DtA H [] []
  | cons {v : V} {vs : List V} {d : PyData} {ds : List PyData} : Dt H v d → DtA H vs ds → DtA H (v :: vs) (d :: ds)
end
/-- the tuples stay -/
def TLe (H H' : Hp) : Prop := ∀ a xs, H a = some (.tup xs) → H' a = some (.tup xs)
theorem TLe.refl (H : Hp) : TLe H H := fun _ _ h => h
theorem TLe.trans {H H1 H2 : Hp} (a : TLe H H1) (b : TLe H1 H2) : TLe H H2 := fun c xs h => b c xs (a c xs h)
theorem TLe.new {H : Hp} {p : Addr} {o : HO} (h : H p = none) : TLe H (upd H p o) := fun a xs e => by rw [upd_ne (ne_of_none e h)]; exact e
theorem TLe.set {H : Hp} {p : Addr} {o u : HO} (h : H p = some u) (hu : ∀ xs, u ≠ .tup xs) : TLe H (upd H p o) := fun a xs e => by
  by_cases q : a = p
  · subst q; rw [h] at e; exact absurd (Option.some.inj e) (hu xs)
  · rw [upd_ne q]; exact e
section
variable {H H' : Hp}
mutual
theorem Dt.mono (e : TLe H H') : ∀ (d : PyData) (v : V), Dt H v d → Dt H' v d
  | .none, _, h => by cases h; exact .non
  | .bool b, _, h => by cases h; exact .bl b
  | .int i, _, h => by cases h; exact .int i
  | .str x, _, h => by cases h; exact .str x
  | .list _, _, h => by cases h
  | .dict _, _, h => by cases h
  | .tuple ds, _, h => by
    cases h with
    | tup h1 h2 => exact .tup (e _ _ h1) (DtA.mono e ds _ h2)
theorem DtA.mono (e : TLe H H') : ∀ (ds : List PyData) (vs : List V), DtA H vs ds → DtA H' vs ds
  | [], _, h => by cases h; exact .nil
  | d :: ds, _, h => by
    cases h with
    | cons h1 h2 => exact .cons (Dt.mono e d _ h1) (DtA.mono e ds _ h2)
end
theorem Dt.to {v : V} {d : PyData} (h : Dt H v d) (e : TLe H H') : Dt H' v d := Dt.mono e d v h
theorem DtA.to {v : List V} {d : List PyData} (h : DtA H v d) (e : TLe H H') : DtA H' v d := DtA.mono e d v h
mutual
theorem Dt.dp (K : PySem.W.Frag) : ∀ (d : PyData) (v : V), Dt H v d → Dp K H v d
  | .none, _, h => by cases h; exact .non
  | .bool b, _, h => by cases h; exact .bl b
  | .int i, _, h => by cases h; exact .int i
  | .str x, _, h => by cases h; exact .str x
  | .list _, _, h => by cases h
  | .dict _, _, h => by cases h
  | .tuple ds, _, h => by
    cases h with
    | tup h1 h2 => exact .tup (SqT.of h1) (DtA.dp K ds _ h2)
theorem DtA.dp (K : PySem.W.Frag) : ∀ (ds : List PyData) (vs : List V), DtA H vs ds → DpAll K H vs ds
  | [], _, h => by cases h; exact .nil
  | d :: ds, _, h => by
    cases h with
    | cons h1 h2 => exact .cons (Dt.dp K d _ h1) (DtA.dp K ds _ h2)
end
theorem Dt.int_eq {v : V} {i : Int} (h : Dt H v (.int i)) : v = .int i := by cases h; rfl
theorem Dt.bl_eq {v : V} {b : Bool} (h : Dt H v (.bool b)) : v = .bl b := by cases h; rfl
theorem Dt.str_eq {v : V} {b : Str} (h : Dt H v (.str b)) : v = .str b := by cases h; rfl
theorem Dt.non_eq {v : V} (h : Dt H v .none) : v = .non := by cases h; rfl
theorem Dt.tup_inv {v : V} {ds : List PyData} (h : Dt H v (.tuple ds)) : ∃ a xs, v = .ref a ∧ H a = some (.tup xs) ∧ DtA H xs ds := by
  cases h with
  | tup h1 h2 => exact ⟨_, _, rfl, h1, h2⟩
theorem DtA.length : ∀ {vs : List V} {ds : List PyData}, DtA H vs ds → vs.length = ds.length
  | _, _, .nil => rfl
  | _, _, .cons _ t => by rw [List.length_cons, List.length_cons, DtA.length t]
theorem DtA.get : ∀ {vs : List V} {ds : List PyData} {i : Nat} {d : PyData}, DtA H vs ds → ds[i]? = some d → ∃ v, vs[i]? = some v ∧ Dt H v d
  | _, _, _, _, .nil, e => by simp at e
  | _, _, 0, _, .cons r _, e => by simp at e; subst e; exact ⟨_, rfl, r⟩
  | _, _, i + 1, d, .cons _ t, e => by
    obtain ⟨u, h1, h2⟩ := DtA.get (i := i) (d := d) t (by simpa using e)
    exact ⟨u, by simpa using h1, h2⟩
theorem DtA.get' : ∀ {vs : List V} {ds : List PyData} {i : Nat} {v : V}, DtA H vs ds → vs[i]? = some v → ∃ d, ds[i]? = some d ∧ Dt H v d
  | _, _, _, _, .nil, e => by simp at e
  | _, _, 0, _, .cons r _, e => by simp at e; subst e; exact ⟨_, rfl, r⟩
  | _, _, i + 1, d, .cons _ t, e => by
    obtain ⟨u, h1, h2⟩ := DtA.get' (i := i) (v := d) t (by simpa using e)
    exact ⟨u, by simpa using h1, h2⟩
theorem DtA.app : ∀ {vs ws : List V} {ds es : List PyData}, DtA H vs ds → DtA H ws es → DtA H (vs ++ ws) (ds ++ es)
  | _, _, _, _, .nil, s => s
  | _, _, _, _, .cons r t, s => .cons r (DtA.app t s)
theorem DtA.snoc {vs : List V} {ds : List PyData} {v : V} {d : PyData} (h : DtA H vs ds) (g : Dt H v d) : DtA H (vs ++ [v]) (ds ++ [d]) := h.app (.cons g .nil)
theorem DtA.ints : ∀ {vs : List V} {ns : List Int}, DtA H vs (ns.map PyData.int) → vs = ns.map V.int
  | _, [], h => by cases h; rfl
  | _, n :: ns, h => by
    cases h with
    | cons h1 h2 => rw [h1.int_eq, DtA.ints h2]; rfl
theorem DtA.bls : ∀ {vs : List V} {ns : List Bool}, DtA H vs (ns.map PyData.bool) → vs = ns.map V.bl
  | _, [], h => by cases h; rfl
  | _, n :: ns, h => by
    cases h with
    | cons h1 h2 => rw [h1.bl_eq, DtA.bls h2]; rfl
theorem DtA.of_ints : ∀ (ns : List Int), DtA H (ns.map V.int) (ns.map PyData.int)
  | [] => .nil
  | n :: ns => .cons (.int n) (DtA.of_ints ns)
theorem DtA.of_bls : ∀ (ns : List Bool), DtA H (ns.map V.bl) (ns.map PyData.bool)
  | [] => .nil
  | n :: ns => .cons (.bl n) (DtA.of_bls ns)
mutual
theorem Dt.fn : ∀ (d : PyData) (v : V) (d' : PyData), Dt H v d → Dt H v d' → d = d'
  | .none, _, _, h, g => by cases h; cases g; rfl
  | .bool b, _, _, h, g => by cases h; cases g; rfl
  | .int i, _, _, h, g => by cases h; cases g; rfl
  | .str x, _, _, h, g => by cases h; cases g; rfl
  | .list _, _, _, h, _ => by cases h
  | .dict _, _, _, h, _ => by cases h
  | .tuple ds, _, _, h, g => by
    cases h with
    | tup h1 h2 =>
      cases g with
      | tup g1 g2 =>
        rw [h1] at g1
        cases g1
        rw [DtA.fn ds _ _ h2 g2]
theorem DtA.fn : ∀ (ds : List PyData) (vs : List V) (ds' : List PyData), DtA H vs ds → DtA H vs ds' → ds = ds'
  | [], _, _, h, g => by cases h; cases g; rfl
  | d :: ds, _, _, h, g => by
    cases h with
    | cons h1 h2 =>
      cases g with
      | cons g1 g2 => rw [Dt.fn d _ _ h1 g1, DtA.fn ds _ _ h2 g2]
end
end
/-! ### data as keys -/
mutual
def keyOf : PyData → NestedKey
  | .none => .none
  | .bool b => .num (if b = true then 1 else 0)
  | .int i => .num i
  | .str x => .text x
  | .tuple ds => .tup (keysOf ds)
  | .list _ => .none
  | .dict _ => .none
def keysOf : List PyData → List NestedKey
  | [] => []
  | d :: ds => keyOf d :: keysOf ds
end
section
variable {X : Cx} {pins : List (Addr × Obj)} {σ : L2.St} {H : Hp} {s : Shared}
mutual
theorem Dt.key (I : Inv X pins σ H s) : ∀ (d : PyData) (v : V) (u : Value), Dt H v d → RelV v u → NestedIs s.heap (keyOf d) u
  | .none, _, _, h, r => by cases h; cases r; exact .none
  | .bool b, _, _, h, r => by cases h; cases r; exact .bool rfl
  | .int i, _, _, h, r => by cases h; obtain ⟨t, rfl⟩ := r; exact .int i t
  | .str x, _, _, h, r => by cases h; obtain ⟨t, rfl⟩ := r; exact .text x t
  | .list _, _, _, h, _ => by cases h
  | .dict _, _, _, h, _ => by cases h
  | .tuple ds, _, _, h, r => by
    cases h with
    | @tup a xs _ h1 h2 =>
      cases r
      obtain ⟨z, its, rv, ob, ho, hc, n, hd⟩ := I.hok a _ h1
      exact .tup ho hc hd (DtA.key I ds _ _ h2 rv)
theorem DtA.key (I : Inv X pins σ H s) : ∀ (ds : List PyData) (vs : List V) (us : List Value), DtA H vs ds → Vals vs us → NestedAll s.heap (keysOf ds) us
  | [], _, _, h, r => by cases h; cases r; exact .nil
  | d :: ds, _, _, h, r => by
    cases h with
    | cons h1 h2 =>
      cases r with
      | cons r1 r2 => exact .cons (Dt.key I d _ _ h1 r1) (DtA.key I ds _ _ h2 r2)
end
end
/-! ### dicts by such keys -/
abbrev NL := List (NestedKey × Addr × V)
def NKV : NL → List (NestedKey × Addr × Value) → Prop := Paired fun p q => p.1 = q.1 ∧ p.2.1 = q.2.1 ∧ RelV p.2.2 q.2.2
def NObj (P : Program) (w : World) (d : Addr) (l : NL) (h : Heap) : Prop :=
  (d == sysModules) = false ∧ l.length ≤ sizeLine ∧ ∃ xs, NKV l xs ∧ ∃ o es ep, h.get? d = some o ∧ o.ExactDict ∧ o.data = .dict es ep ∧ es.toList = xs.map (entryOfKey (nestedKind P w)) ∧ (xs.map (·.1)).Nodup
def NDO (P : Program) (w : World) (d : Addr) (l : NL) : HO := .ext (NObj P w d l)
/-- the key k, as the tuple at a -/
def NK (H : Hp) (k : NestedKey) (a : Addr) : Prop := ∃ e, Dt H (.ref a) e ∧ keyOf e = k ∧ k.depth ≤ 8
theorem NK.to {H H' : Hp} {k : NestedKey} {a : Addr} (h : NK H k a) (e : TLe H H') : NK H' k a := let ⟨d, h1, h2, h3⟩ := h; ⟨d, h1.to e, h2, h3⟩
structure ND (P : Program) (w : World) (H : Hp) (d : Addr) (l : NL) : Prop where
  at_ : H d = some (NDO P w d l)
  keys : ∀ p ∈ l, NK H p.1 p.2.1
theorem ND.to {P : Program} {w : World} {H H' : Hp} {d : Addr} {l : NL} (h : ND P w H d l) (e : TLe H H') (ed : H' d = H d) : ND P w H' d l := ⟨ed.trans h.at_, fun p hp => (h.keys p hp).to e⟩
def valN (l : NL) (k : NestedKey) : Option V := (l.find? fun p => decide (p.1 = k)).map (·.2.2)
theorem nobj_ok {P : Program} {w : World} {H : Hp} {h : Heap} {d : Addr} {l : NL} (n : NObj P w d l h) : ObjOk P w H h d (NDO P w d l) := by
  refine ⟨n, ?_, fun h1 h2 n1 k => ?_⟩
  · obtain ⟨_, _, xs, _, o, es, ep, e, _⟩ := n
    exact ⟨o, e⟩
  · obtain ⟨a, b, xs, c, o, es, ep, e, r⟩ := n1
    exact ⟨a, b, xs, c, o, es, ep, k o e, r⟩
section
variable {X : Cx} {pins : List (Addr × Obj)} {σ : L2.St} {H : Hp} {s : Shared} {d : Addr} {l : NL}
theorem nkv_mem {l : NL} {xs : List (NestedKey × Addr × Value)} (h : NKV l xs) : ∀ x ∈ xs, ∃ p ∈ l, p.1 = x.1 ∧ p.2.1 = x.2.1 := by
  induction h with
  | nil => exact fun _ hx => nomatch hx
  | @cons p q ps qs r t ih =>
    intro x hx
    rcases List.mem_cons.mp hx with e | hx
    · exact ⟨p, List.mem_cons_self, by rw [e]; exact r.1, by rw [e]; exact r.2.1⟩
    · obtain ⟨p', hp', e⟩ := ih x hx
      exact ⟨p', List.mem_cons_of_mem _ hp', e⟩
theorem nkv_val {l : NL} {xs : List (NestedKey × Addr × Value)} (k : NestedKey) (h : NKV l xs) : RelO (valN l k) ((atKey xs k).map (·.2)) := by
  induction h with
  | nil => exact True.intro
  | @cons p q ps qs r t ih =>
    by_cases e : q.1 = k
    · have e' : p.1 = k := r.1.trans e
      have h1 : valN (p :: ps) k = some p.2.2 := by simp [valN, List.find?_cons, e']
      have h2 : atKey (q :: qs) k = some q.2 := by simp [atKey, List.find?_cons, e]
      rw [h1, h2]
      exact r.2.2
    · have e' : ¬ p.1 = k := fun z => e (r.1.symm.trans z)
      have h1 : valN (p :: ps) k = valN ps k := by simp [valN, List.find?_cons, e']
      have h2 : atKey (q :: qs) k = atKey qs k := by simp [atKey, List.find?_cons, e]
      rw [h1, h2]
      exact ih
theorem nkv_snoc {l : NL} {xs : List (NestedKey × Addr × Value)} {k : NestedKey} {a : Addr} {v : V} {u : Value} (h : NKV l xs) (r : RelV v u) : NKV (l ++ [(k, a, v)]) (xs ++ [(k, a, u)]) := by
  have app : ∀ {l : NL} {xs : List (NestedKey × Addr × Value)}, NKV l xs → NKV (l ++ [(k, a, v)]) (xs ++ [(k, a, u)]) := by
    intro l xs h
    induction h with
    | nil => exact .cons ⟨rfl, rfl, r⟩ .nil
    | cons q _ ih => exact .cons q ih
  exact app h
theorem ND.full (h : ND X.prog X.w H d l) (I : Inv X pins σ H s) : (d == sysModules) = false ∧ l.length ≤ sizeLine ∧ ∃ xs, NKV l xs ∧ s.heap.DictOfH (nestedKind X.prog X.w) d xs := by
  obtain ⟨⟨a, b, xs, c, o, es, ep, e, r1, r2, r3, r4⟩, _, _⟩ := I.hok d _ h.at_
  refine ⟨a, b, xs, c, o, es, ep, e, r1, r2, r3, fun x hx => ?_, r4⟩
  obtain ⟨p, hp, e1, e2⟩ := nkv_mem c x hx
  obtain ⟨dd, h1, h2, h3⟩ := h.keys p hp
  rw [← e1, ← e2]
  refine ⟨?_, h3⟩
  rw [← h2]
  exact Dt.key I dd _ _ h1 rfl
theorem NK.is {k : NestedKey} {a : Addr} (h : NK H k a) (I : Inv X pins σ H s) : (nestedKind X.prog X.w).is s.heap k a := by
  obtain ⟨dd, h1, h2, h3⟩ := h
  refine ⟨?_, h3⟩
  rw [← h2]
  exact Dt.key I dd _ _ h1 rfl
theorem nroom (hu : X.A.units + 64 < cLine) : (nestedKind X.prog X.w).room X.A.in1 := by
  show X.A.in1.units + 8 < cLine
  rw [Around.in1_units]
  omega
theorem nroom0 (hu : X.A.units + 64 < cLine) : (nestedKind X.prog X.w).room X.A := by
  show X.A.units + 8 < cLine
  omega
/-- a new key is stored -/
theorem ND.put {E : Value → Shared → Prop} {k : NestedKey} {b : Addr} {v : V} {u : Value} {h' : Heap} {t' : Nat} (h : ND X.prog X.w H d l) (I : Inv X pins σ H s) (hk : NK H k b) (hn : valN l k = none) (r : RelV v u) (hl : l.length < sizeLine)
    {xs : List (NestedKey × Addr × Value)} (hx : NKV l xs) (hm : h'.DictOfH (nestedKind X.prog X.w) d (storedH xs k b u)) (hs : Heap.SameBut d s.heap h') :
    Inv X pins σ (upd H d (NDO X.prog X.w d (l ++ [(k, b, v)]))) { s with heap := h', toks := t' } := by
  have hno : atKey xs k = none := by
    have q := nkv_val k hx
    rw [hn] at q
    cases e : atKey xs k with
    | none => rfl
    | some p => rw [e] at q; exact q.elim
  have est : storedH xs k b u = xs ++ [(k, b, u)] := by
    unfold storedH
    rw [hno]
    rfl
  rw [est] at hm
  obtain ⟨a, z, _⟩ := h.full I
  obtain ⟨o, es, ep, e, r1, r2, r3, r4, r5⟩ := hm
  refine I.write (x := d) (e := d) (by rw [h.at_]; exact True.intro) (.inl rfl) (fun b' q hb z => (hs.2 b' hb).trans z) ⟨o, e⟩ (nobj_ok ⟨a, ?_, xs ++ [(k, b, u)], nkv_snoc hx r, o, es, ep, e, r1, r2, r3, r5⟩)
  rw [List.length_append]
  show l.length + 1 ≤ sizeLine
  omega
end
/-- what stands behind a store -/
theorem ND.snoc {P : Program} {w : World} {H : Hp} {d : Addr} {l : NL} {k : NestedKey} {b : Addr} {v : V} (h : ND P w H d l) (hk : NK H k b) : ND P w (upd H d (NDO P w d (l ++ [(k, b, v)]))) d (l ++ [(k, b, v)]) := by
  have e : TLe H (upd H d (NDO P w d (l ++ [(k, b, v)]))) := TLe.set h.at_ fun xs z => by cases z
  refine ⟨upd_same, fun p hp => ?_⟩
  rcases List.mem_append.mp hp with q | q
  · exact (h.keys p q).to e
  · have : p = (k, b, v) := by simpa using q
    rw [this]
    exact hk.to e
section
variable {X : Cx} {pos : Pos}
theorem nd_empty {P : Program} {w : World} {H : Hp} (h : Heap) (hb : sysModules < h.objs.size) : ObjOk P w H (h.push { cls := .type "dict", data := .dict #[] }) h.objs.size (NDO P w h.objs.size []) :=
  nobj_ok ⟨beq_eq_false_iff_ne.mpr (Ne.symm (Nat.ne_of_lt hb)), Nat.zero_le _, [], .nil, _, #[], 0, Heap.get?_push_size _ rfl, ⟨rfl, rfl, rfl⟩, rfl, rfl, List.nodup_nil⟩
/-- {} -/
def tNewN (P : Program) (w : World) : TE := fun _ H Q => ∀ p, H p = none → Q (.ref p) (upd H p (NDO P w p []))
theorem pe_dnewN : PE X (.Dict [] [] pos) (tNewN X.prog X.w) := ⟨fun pins s σ H Q I h =>
  wpAny_Dict_empty ⟨.ref s.heap.objs.size, _, I.laid (a := s.heap.objs.size) (o := NDO X.prog X.w s.heap.objs.size []) (t' := s.toks) (fun _ _ q => Heap.get?_push_of_some _ q) (Nat.le_refl _) (nd_empty s.heap I.big), rfl, h _ (I.hok.fresh (Nat.le_refl _))⟩⟩
/-- {k: v} -/
def tDisp1N (P : Program) (w : World) (tk tv : TE) : TE := fun σ H Q => ∀ p, H p = none → tk σ (upd H p (NDO P w p [])) fun x H1 => tv σ H1 fun y H2 => ∃ b k, x = .ref b ∧ NK H2 k b ∧ H2 p = some (NDO P w p []) ∧
  Q (.ref p) (upd H2 p (NDO P w p [(k, b, y)]))
theorem pe_disp1N {k v : Expr} {tk tv : TE} (hu : X.A.units + 64 < cLine) (hk : PE X k tk) (hv : PE X v tv) : PE X (.Dict [some k] [v] pos) (tDisp1N X.prog X.w tk tv) := by
  refine ⟨fun pins s σ H Q I h => ?_⟩
  have hn := I.hok.fresh (Nat.le_refl s.heap.objs.size)
  have I1 := I.laid (a := s.heap.objs.size) (o := NDO X.prog X.w s.heap.objs.size []) (h' := s.heap.push { cls := .type "dict", data := .dict #[] }) (t' := s.toks) (fun _ _ q => Heap.get?_push_of_some _ q) (Nat.le_refl _) (nd_empty s.heap I.big)
  refine wpAny_Dict_any rfl rfl (by simp) (by show 1 ≤ 15; decide) ?_
  refine thn ((pps_cons hk hv pps_nil).run pins _ σ _ (fun ps H2 => ∃ (y : V) (b : Addr) (kk : NestedKey), ps = [(V.ref b, y)] ∧ NK H2 kk b ∧ H2 s.heap.objs.size = some (NDO X.prog X.w s.heap.objs.size []) ∧ Q (.ref s.heap.objs.size) (upd H2 s.heap.objs.size (NDO X.prog X.w s.heap.objs.size [(kk, b, y)]))) I1 ?_) fun ws s2 ⟨ps, H2, I2, rel, y, b, kk, ep, nk, e, q⟩ => ?_
  · have q := h _ hn
    show tk σ _ fun x H1 => tv σ H1 fun y H2 => _
    have conv : ∀ (x y : V) (H2 : Hp), (∃ (b : Addr) (k : NestedKey), x = V.ref b ∧ NK H2 k b ∧ H2 s.heap.objs.size = some (NDO X.prog X.w s.heap.objs.size []) ∧ Q (.ref s.heap.objs.size) (upd H2 s.heap.objs.size (NDO X.prog X.w s.heap.objs.size [(k, b, y)]))) =
      (∃ (y' : V) (b : Addr) (kk : NestedKey), [(x, y)] = [(V.ref b, y')] ∧ NK H2 kk b ∧ H2 s.heap.objs.size = some (NDO X.prog X.w s.heap.objs.size []) ∧ Q (.ref s.heap.objs.size) (upd H2 s.heap.objs.size (NDO X.prog X.w s.heap.objs.size [(kk, b, y')]))) := fun x y H2 => propext
        ⟨fun ⟨b, k, e1, e2, e3, e4⟩ => ⟨y, b, k, by rw [e1], e2, e3, e4⟩, fun ⟨y', b, k, e1, e2, e3, e4⟩ => by
          have e1' := (List.cons.inj e1).1
          have e5 : x = V.ref b := (Prod.mk.inj e1').1
          have e6 : y = y' := (Prod.mk.inj e1').2
          subst e6
          exact ⟨b, k, e5, e2, e3, e4⟩⟩
    simp only [conv] at q
    exact q
  · subst ep
    cases rel with
    | @cons _ bu _ _ r rr =>
      cases rr
      obtain ⟨r1, r2⟩ := r
      obtain ⟨u1, u2⟩ := bu
      obtain rfl : u1 = Value.ref b := r1
      have nd : ND X.prog X.w H2 s.heap.objs.size [] := ⟨e, fun _ hp => nomatch hp⟩
      obtain ⟨_, _, xs, c, dd⟩ := nd.full I2
      unfold storeAll
      rw [List.forIn_cons]
      refine wpAny_bind (wpAny_bind (wpAny_dictSet_heap (knd := nestedKind X.prog X.w) (hsz := by cases c; exact Nat.zero_le _) (nroom0 hu) (nk.is I2) dd fun h' hm hs => ?_))
      refine wpAny_pure ?_
      show wpAny _ _ (forIn [] PUnit.unit _) _ _ _
      rw [List.forIn_nil]
      refine wpAny_pure ?_
      exact ⟨.ref s.heap.objs.size, _, nd.put (E := X.xe) I2 nk rfl r2 (by show 0 < sizeLine; decide) c hm hs, rfl, q⟩
/-- k in d, k not in d -/
def tInN (P : Program) (w : World) (neg : Bool) (ty td : TE) : TE := fun σ H Q => ty σ H fun y H1 => td σ H1 fun x H2 => ∃ a l b k, x = .ref a ∧ ND P w H2 a l ∧ y = .ref b ∧ NK H2 k b ∧ Q (.bl (if neg = true then !(valN l k).isSome else (valN l k).isSome)) H2
variable {o i value : Expr} {td ty tv : TE}
theorem pc_ninN (hu : X.A.units + 64 < cLine) (hi : PE X i ty) (ho : PE X o td) : PC X .NotIn i o (tInN X.prog X.w true ty td) := by
  refine ⟨fun pins s σ H Q I h => ?_⟩
  refine thn (hi.run pins s σ H _ I h) fun iv s1 ⟨y, H1, I1, ry, q1⟩ => thn (ho.run pins s1 σ H1 _ I1 q1) fun u s2 ⟨x, H2, I2, rx, a, l, b, k, ex, nd, ey, nk, q2⟩ => ?_
  subst ex ey
  obtain rfl : u = Value.ref a := rx
  obtain rfl : iv = Value.ref b := ry
  obtain ⟨hd, z, xs, c, dd⟩ := nd.full I2
  refine wpAny_notIn_heap (nroom hu) (nk.is I2) hd dd ?_
  have q := (nkv_val k c).isSome_eq
  rw [Option.isSome_map] at q
  rw [← q]
  exact ⟨.bl _, H2, I2.tok _, rfl, q2⟩
theorem pc_inN (hu : X.A.units + 64 < cLine) (hi : PE X i ty) (ho : PE X o td) : PC X .In i o (tInN X.prog X.w false ty td) := by
  refine ⟨fun pins s σ H Q I h => ?_⟩
  refine thn (hi.run pins s σ H _ I h) fun iv s1 ⟨y, H1, I1, ry, q1⟩ => thn (ho.run pins s1 σ H1 _ I1 q1) fun u s2 ⟨x, H2, I2, rx, a, l, b, k, ex, nd, ey, nk, q2⟩ => ?_
  subst ex ey
  obtain rfl : u = Value.ref a := rx
  obtain rfl : iv = Value.ref b := ry
  obtain ⟨hd, z, xs, c, dd⟩ := nd.full I2
  refine wpAny_in_heap (nroom hu) (nk.is I2) hd dd ?_
  have q := (nkv_val k c).isSome_eq
  rw [Option.isSome_map] at q
  rw [← q]
  exact ⟨.bl _, H2, I2.tok _, rfl, q2⟩
/-- d[k], there -/
def tGetN (P : Program) (w : World) (td ty : TE) : TE := fun σ H Q => td σ H fun x H1 => ty σ H1 fun y H2 => ∃ a l b k v, x = .ref a ∧ ND P w H2 a l ∧ y = .ref b ∧ NK H2 k b ∧ valN l k = some v ∧ Q v H2
theorem pe_getN (hu : X.A.units + 64 < cLine) (ho : PE X o td) (hi : PE X i ty) (hs : NoSl i) : PE X (.Subscript o i pos) (tGetN X.prog X.w td ty) := by
  refine ⟨fun pins s σ H Q I h => ?_⟩
  refine subD_of PySem.F.slot_dict_getitem.lookup hs (thn (ho.run pins s σ H _ I h) fun u s1 ⟨x, H1, I1, rx, q1⟩ => thn (hi.run pins s1 σ H1 _ I1 q1) fun iv s2 ⟨y, H2, I2, ry, a, l, b, k, v, ex, nd, ey, nk, ev, q2⟩ => ?_)
  subst ex ey
  obtain rfl : u = Value.ref a := rx
  obtain rfl : iv = Value.ref b := ry
  obtain ⟨hd, z, xs, c, dd⟩ := nd.full I2
  have q := nkv_val k c
  rw [ev] at q
  obtain ⟨u', hu', ru⟩ := RelO.some_of q
  obtain ⟨p, hp, hp2⟩ := Option.map_eq_some_iff.mp hu'
  refine ⟨dd.typeIs, wpAny_getItem_heap (nroom hu) (nk.is I2) dd hp ?_⟩
  rw [hp2]
  exact ⟨v, H2, I2.tok _, ru, q2⟩
/-- d[k] = v, not there ahead -/
def sPutN (P : Program) (w : World) (td ty tv : TE) : TS := fun D σ H => tv σ H fun v H1 => td σ H1 fun x H2 => ty σ H2 fun y H3 => ∃ a l b k, x = .ref a ∧ ND P w H3 a l ∧ y = .ref b ∧ NK H3 k b ∧ valN l k = none ∧ l.length < sizeLine ∧
  D.nx σ (upd H3 a (NDO P w a (l ++ [(k, b, v)])))
theorem ps_putN {pos' : Pos} (hu : X.A.units + 64 < cLine) (ho : PE X o td) (hi : PE X i ty) (hv : PE X value tv) (hs : swapsWith value (some (.Subscript o i pos')) pos.line X.env = pure false := by rfl) :
    PS X (.Assign [.Subscript o i pos'] value pos) (sPutN X.prog X.w td ty tv) := by
  refine ⟨fun pins s σ H D I h => ?_⟩
  refine wpAny_Assign_Subscript (thn (hv.run pins s σ H _ I h) fun r s1 ⟨v, H1, I1, rv, q1⟩ => thn (ho.run pins s1 σ H1 _ I1 q1) fun u s2 ⟨x, H2, I2, rx, q2⟩ => thn (hi.run pins s2 σ H2 _ I2 q2) fun iv s3 ⟨y, H3, I3, ry, a, l, b, k, ex, nd, ey, nk, ev, hl, q3⟩ => ?_) hs
  subst ex ey
  obtain rfl : u = Value.ref a := rx
  obtain rfl : iv = Value.ref b := ry
  obtain ⟨hd, z, xs, c, dd⟩ := nd.full I3
  have hz : xs.length ≤ sizeLine := by rw [← Paired.length c]; exact z
  refine wpAny_setItem_heap (hsz := hz) (nroom hu) (nk.is I3) dd fun h' hm hs' => ?_
  exact ⟨σ, _, nd.put (E := X.xe) I3 nk ev rv hl c hm hs', q3⟩
/-- d.setdefault(k, v) -/
def tSetdN (P : Program) (w : World) (td ty tx : TE) : TE := fun σ H Q => td σ H fun x H1 => ∃ a, x = .ref a ∧ (∃ l, ND P w H1 a l) ∧ ty σ H1 fun y H2 => tx σ H2 fun z H3 => ∃ l b k, ND P w H3 a l ∧ y = .ref b ∧ NK H3 k b ∧ l.length < sizeLine ∧
  (∀ v, valN l k = some v → Q v H3) ∧ (valN l k = none → Q z (upd H3 a (NDO P w a (l ++ [(k, b, z)]))))
theorem pe_setdN {e f : Expr} {tx : TE} {apos cpos : Pos} (hu : X.A.units + 64 < cLine) (ho : PE X o td) (he : PE X e ty) (hf : PE X f tx) (m : M2 X o "setdefault" apos e f cpos) :
    PE X (.Call (.Attribute o "setdefault" apos) [e, f] [] cpos) (tSetdN X.prog X.w td ty tx) := by
  refine ⟨fun pins s σ H Q I h => ?_⟩
  refine wpAny_Call_method m.base m.few m.line PySem.F.plainAttrs_dict PySem.F.slot_dict_setdefault PySem.F.type_dict_setdefault (thn (ho.run pins s σ H _ I h) fun u s1 ⟨x, H1, I1, rx, a, ex, ⟨l0, nd0⟩, q1⟩ => ?_)
  subst ex
  obtain rfl : u = Value.ref a := rx
  obtain ⟨_, _, xs0, _, dd0⟩ := nd0.full I1
  refine ⟨dd0.typeIs, fun b q => ?_, ?_⟩
  · cases q
    obtain ⟨o', _, _, h1, h2, _⟩ := dd0
    exact ⟨o', h1, h2.2.1⟩
  · rw [m.trees]
    refine Calls.callWith_builtin rfl (Calls.evalArgs_plain (Calls.spliced_cons (thn (he.run pins s1 σ H1 _ I1 q1) fun iv s2 ⟨y, H2, I2, ry, q2⟩ =>
      Calls.spliced_cons (thn (hf.run pins s2 σ H2 _ I2 q2) fun fv s3 ⟨z, H3, I3, rz, l, b, k, nd, ey, nk, hl, q3, q4⟩ => Calls.spliced_nil ?_))))
    subst ey
    obtain rfl : iv = Value.ref b := ry
    obtain ⟨hd, zz, xs, c, dd⟩ := nd.full I3
    have hz : xs.length ≤ sizeLine := by rw [← Paired.length c]; exact zz
    refine call_setdefault_heap (hsz := hz) (nroom hu) (nk.is I3) hd dd (fun p hp => ?_) fun hn h' hm hs' => ?_
    · have q := nkv_val k c
      rw [hp] at q
      cases ev : valN l k with
      | none => rw [ev] at q; exact q.elim
      | some v => rw [ev] at q; exact ⟨v, H3, I3.tok _, q, q3 v ev⟩
    · have ev : valN l k = none := by
        have q := nkv_val k c
        rw [hn] at q
        cases ev : valN l k with
        | none => rfl
        | some v => rw [ev] at q; exact q.elim
      exact ⟨z, _, nd.put (E := X.xe) I3 nk ev rz hl c hm hs', rz, q4 ev⟩
/-- len(d) -/
def rLenN (P : Program) (w : World) : List V → Hp → VK → Prop := fun xs H Q => ∃ p l, xs = [.ref p] ∧ ND P w H p l ∧ Q (.int ((l.length : Nat) : Int)) H
theorem call_lenN : CallR X (.builtin "len") (rLenN X.prog X.w) := by
  intro pins s σ H xs us Q I r h
  obtain ⟨p, l, rfl, nd, q⟩ := h
  obtain ⟨u, rfl, rx⟩ := vals1 r
  obtain rfl : u = .ref p := rx
  obtain ⟨hd, z, ys, c, dd⟩ := nd.full I
  have hl : l.length = ys.length := Paired.length c
  refine call_len_dictH hd dd (by rw [← hl]; rw [sizeLine_eq] at z; omega) ?_
  rw [← hl]
  exact ⟨.int ((l.length : Nat) : Int), H, I.tok _, ⟨_, rfl⟩, q⟩
variable {e f k v : Expr} {tk tx : TE} {apos cpos : Pos} (P : Program) (w : World)
theorem peNewN (hP : X.prog = P) (hw : X.w = w) : PE X (.Dict [] [] pos) (tNewN P w) := by subst hP hw; exact pe_dnewN
theorem peDispN (hP : X.prog = P) (hw : X.w = w) (hu : X.A.units + 64 < cLine) (hk : PE X k tk) (hv : PE X v tv) : PE X (.Dict [some k] [v] pos) (tDisp1N P w tk tv) := by subst hP hw; exact pe_disp1N hu hk hv
theorem pcNinN (hP : X.prog = P) (hw : X.w = w) (hu : X.A.units + 64 < cLine) (hi : PE X i ty) (ho : PE X o td) : PC X .NotIn i o (tInN P w true ty td) := by subst hP hw; exact pc_ninN hu hi ho
theorem peGetN (hP : X.prog = P) (hw : X.w = w) (hu : X.A.units + 64 < cLine) (ho : PE X o td) (hi : PE X i ty) (hs : NoSl i) : PE X (.Subscript o i pos) (tGetN P w td ty) := by subst hP hw; exact pe_getN hu ho hi hs
theorem psPutN {pos' : Pos} (hP : X.prog = P) (hw : X.w = w) (hu : X.A.units + 64 < cLine) (ho : PE X o td) (hi : PE X i ty) (hv : PE X value tv) (hs : swapsWith value (some (.Subscript o i pos')) pos.line X.env = pure false := by rfl) :
    PS X (.Assign [.Subscript o i pos'] value pos) (sPutN P w td ty tv) := by subst hP hw; exact ps_putN hu ho hi hv hs
theorem peSetdN (hP : X.prog = P) (hw : X.w = w) (hu : X.A.units + 64 < cLine) (ho : PE X o td) (he : PE X e ty) (hf : PE X f tx) (m : M2 X o "setdefault" apos e f cpos) :
    PE X (.Call (.Attribute o "setdefault" apos) [e, f] [] cpos) (tSetdN P w td ty tx) := by subst hP hw; exact pe_setdN hu ho he hf m
theorem clLenN (hP : X.prog = P) (hw : X.w = w) : CallR X (.builtin "len") (rLenN P w) := by subst hP hw; exact call_lenN
end
end K13
/-! K13Ev: what a reading comes to, as data. -/
namespace K13
open PySem PySem.Spec PyProof.Rows L2
/-! ### what may change meanwhile -/
structure Fx where
  B : Addr → Prop
  J : Hp → Prop
  st : ∀ {H H1 : Hp} {p : Addr} {o : HO}, J H → H p = none → J H1 → J (upd H1 p o)
/-- nothing -/
def f0 : Fx := ⟨fun _ => False, fun _ => True, fun _ _ _ => True.intro⟩
structure Le (f : Fx) (H H' : Hp) : Prop where
  keep : ∀ a o, ¬ f.B a → H a = some o → H' a = some o
  tup : TLe H H'
  inv : f.J H → f.J H'
theorem Le.refl {f : Fx} (H : Hp) : Le f H H := ⟨fun _ _ _ e => e, TLe.refl H, id⟩
theorem Le.trans {f : Fx} {H H1 H2 : Hp} (a : Le f H H1) (b : Le f H1 H2) : Le f H H2 := ⟨fun c o n e => b.keep c o n (a.keep c o n e), a.tup.trans b.tup, fun j => b.inv (a.inv j)⟩
theorem Le.new {f : Fx} {H : Hp} {p : Addr} {o : HO} (h : H p = none) : Le f H (upd H p o) := ⟨fun a u _ e => by rw [upd_ne (ne_of_none e h)]; exact e, TLe.new h, fun j => f.st j h j⟩
theorem Le.back {f : Fx} {H H' : Hp} (e : Le f H H') {p : Addr} (hB : ¬ f.B p) (h : H' p = none) : H p = none := by
  cases q : H p with
  | none => rfl
  | some o => rw [e.keep p o hB q] at h; cases h
theorem same_le {H H' : Hp} (e : Same H H') : Le f0 H H' := ⟨fun a o _ q => e a o q, fun a xs q => e a _ q, fun _ => True.intro⟩
theorem le_same {H H' : Hp} (e : Le f0 H H') : Same H H' := fun a o q => e.keep a o (fun z => z) q
theorem same_tup {H H' : Hp} (e : Same H H') : TLe H H' := fun a xs q => e a _ q
theorem same_new {H : Hp} {p : Addr} {o : HO} (h : H p = none) : Same H (upd H p o) := fun a u e => by rw [upd_ne (ne_of_none e h)]; exact e
/-- an object that H does not know may change -/
theorem same_mut {H H' : Hp} {p : Addr} {o : HO} (e : Same H H') (h : H p = none) : Same H (upd H' p o) := fun a u ha => by rw [upd_ne (ne_of_none ha h)]; exact e a u ha
/-! ### judgements -/
def EvD (f : Fx) (te : TE) (σ : L2.St) (H : Hp) (d : PyData) : Prop := ∀ H1, Le f H H1 → ∀ Q : VK, (∀ v H2, Le f H1 H2 → Dt H2 v d → Q v H2) → te σ H1 Q
/-- just this value -/
def EvV (f : Fx) (te : TE) (σ : L2.St) (H : Hp) (v : V) : Prop := ∀ H1, Le f H H1 → ∀ Q : VK, (∀ H2, Le f H1 H2 → Q v H2) → te σ H1 Q
/-- a new list of these -/
def EvL (f : Fx) (te : TE) (σ : L2.St) (H : Hp) (ds : List PyData) : Prop := ∀ H1, Le f H H1 → ∀ Q : VK, (∀ p vs H2, Le f H1 H2 → H1 p = none → H2 p = some (.lst vs) → DtA H2 vs ds → Q (.ref p) H2) → te σ H1 Q
def EvA (f : Fx) (ta : TA) (σ : L2.St) (H : Hp) (ds : List PyData) : Prop := ∀ H1, Le f H H1 → ∀ Q : List V → Hp → Prop, (∀ vs H2, Le f H1 H2 → DtA H2 vs ds → Q vs H2) → ta σ H1 Q
def EvT (f : Fx) (tt : TT) (σ : L2.St) (H : Hp) (b : Bool) : Prop := ∀ H1, Le f H H1 → ∀ Q : Bool → Hp → Prop, (∀ H2, Le f H1 H2 → Q b H2) → tt σ H1 Q
def RetD (H : Hp) (Q : VK) (d : PyData) : Prop := ∀ v H', Same H H' → Dt H' v d → Q v H'
section
variable {f : Fx} {σ : L2.St} {H H' : Hp} {K : PySem.W.Frag} {ta tb tc te : TE} {tr : TA} {tt tu : TT} {d e : PyData} {v x y : V} {i j : Int} {b c : Bool}
theorem EvD.mono (h : EvD f te σ H d) (e : Le f H H') : EvD f te σ H' d := fun H1 a Q q => h H1 (e.trans a) Q q
theorem EvT.mono (h : EvT f tt σ H b) (e : Le f H H') : EvT f tt σ H' b := fun H1 a Q q => h H1 (e.trans a) Q q
theorem EvD.is (h : EvD f te σ H d) (q : d = e) : EvD f te σ H e := q ▸ h
theorem EvT.is (h : EvT f tt σ H b) (q : b = c) : EvT f tt σ H c := q ▸ h
theorem ev_var {n : Nat} (h : σ[n]? = some (some v)) (hd : Dt H v d) : EvD f (tVar n) σ H d := fun H1 e _ q => ⟨v, h, q v H1 (Le.refl _) (hd.to e.tup)⟩
theorem evv_var {n : Nat} (h : σ[n]? = some (some v)) : EvV f (tVar n) σ H v := fun H1 _ _ q => ⟨v, h, q H1 (Le.refl _)⟩
theorem ev_int : EvD f (tC (.int i)) σ H (.int i) := fun H1 _ _ q => q _ H1 (Le.refl _) (.int i)
theorem ev_bl : EvD f (tC (.bl b)) σ H (.bool b) := fun H1 _ _ q => q _ H1 (Le.refl _) (.bl b)
theorem ev_str {z : Str} : EvD f (tC (.str z)) σ H (.str z) := fun H1 _ _ q => q _ H1 (Le.refl _) (.str z)
theorem ev_non : EvD f (tC .non) σ H .none := fun H1 _ _ q => q _ H1 (Le.refl _) .non
theorem ev_2 {r : R2} {g : PyData} (ha : EvD f ta σ H d) (hb : EvD f tb σ H e) (hr : ∀ x y H1, Dt H1 x d → Dt H1 y e → ∀ Q : VK, (∀ v H2, Le f H1 H2 → Dt H2 v g → Q v H2) → r x y H1 Q) : EvD f (tOp r ta tb) σ H g := fun H1 e1 Q q =>
  ha H1 e1 _ fun x H2 e2 hx => hb H2 (e1.trans e2) _ fun y H3 e3 hy => hr x y H3 (hx.to e3.tup) hy Q fun v H4 e4 hv => q v H4 ((e2.trans e3).trans e4) hv
theorem ev_ii {F : Int → Int → Int} (ha : EvD f ta σ H (.int i)) (hb : EvD f tb σ H (.int j)) : EvD f (tOp (rI0 fun i j => .int (F i j)) ta tb) σ H (.int (F i j)) :=
  ev_2 ha hb fun x y H1 hx hy Q q => ⟨i, j, hx.int_eq, hy.int_eq, q _ H1 (Le.refl _) (.int _)⟩
theorem ev_ib {F : Int → Int → Bool} (ha : EvD f ta σ H (.int i)) (hb : EvD f tb σ H (.int j)) : EvD f (tOp (rI0 fun i j => .bl (F i j)) ta tb) σ H (.bool (F i j)) :=
  ev_2 ha hb fun x y H1 hx hy Q q => ⟨i, j, hx.int_eq, hy.int_eq, q _ H1 (Le.refl _) (.bl _)⟩
theorem ev_ic {C : Int → Int → Prop} {F : Int → Int → Int} (ha : EvD f ta σ H (.int i)) (hb : EvD f tb σ H (.int j)) (hc : C i j) : EvD f (tOp (rI C fun i j => .int (F i j)) ta tb) σ H (.int (F i j)) :=
  ev_2 ha hb fun x y H1 hx hy Q q => ⟨i, j, hx.int_eq, hy.int_eq, hc, q _ H1 (Le.refl _) (.int _)⟩
theorem ev_neg (ha : EvD f ta σ H (.int i)) : EvD f (tUn (rU fun i => .int (-i)) ta) σ H (.int (-i)) := fun H1 e1 Q q =>
  ha H1 e1 _ fun x H2 e2 hx => ⟨i, hx.int_eq, q _ H2 e2 (.int _)⟩
theorem ev_eqI (ha : EvD f ta σ H (.int i)) (hb : EvD f tb σ H (.int j)) : EvD f (tOp rEq ta tb) σ H (.bool (decide (i = j))) :=
  ev_2 ha hb fun x y H1 hx hy Q q => by
    rw [hx.int_eq, hy.int_eq]
    refine ⟨rfl, ?_⟩
    rw [show decide (V.int i = V.int j) = decide (i = j) by rw [dec_int, Bool.beq_eq_decide_eq]]
    exact q _ H1 (Le.refl _) (.bl _)
theorem ev_neI (ha : EvD f ta σ H (.int i)) (hb : EvD f tb σ H (.int j)) : EvD f (tOp rNe ta tb) σ H (.bool (!decide (i = j))) :=
  ev_2 ha hb fun x y H1 hx hy Q q => by
    rw [hx.int_eq, hy.int_eq]
    refine ⟨rfl, ?_⟩
    rw [show decide (V.int i = V.int j) = decide (i = j) by rw [dec_int, Bool.beq_eq_decide_eq]]
    exact q _ H1 (Le.refl _) (.bl _)
theorem ev_eqB (ha : EvD f ta σ H (.bool b)) (hb : EvD f tb σ H (.bool c)) : EvD f (tOp rEq ta tb) σ H (.bool (b == c)) :=
  ev_2 ha hb fun x y H1 hx hy Q q => by
    rw [hx.bl_eq, hy.bl_eq]
    refine ⟨rfl, ?_⟩
    rw [dec_bl]
    exact q _ H1 (Le.refl _) (.bl _)
theorem ev_neB (ha : EvD f ta σ H (.bool b)) (hb : EvD f tb σ H (.bool c)) : EvD f (tOp rNe ta tb) σ H (.bool (!(b == c))) :=
  ev_2 ha hb fun x y H1 hx hy Q q => by
    rw [hx.bl_eq, hy.bl_eq]
    refine ⟨rfl, ?_⟩
    rw [dec_bl]
    exact q _ H1 (Le.refl _) (.bl _)
theorem ev_eqS {z w : Str} (ha : EvD f ta σ H (.str z)) (hb : EvD f tb σ H (.str w)) : EvD f (tOp rEq ta tb) σ H (.bool (decide (z = w))) :=
  ev_2 ha hb fun x y H1 hx hy Q q => by
    rw [hx.str_eq, hy.str_eq]
    refine ⟨rfl, ?_⟩
    rw [show decide (V.str z = V.str w) = decide (z = w) by rw [dec_str, Bool.beq_eq_decide_eq]]
    exact q _ H1 (Le.refl _) (.bl _)
theorem ev_neS {z w : Str} (ha : EvD f ta σ H (.str z)) (hb : EvD f tb σ H (.str w)) : EvD f (tOp rNe ta tb) σ H (.bool (!decide (z = w))) :=
  ev_2 ha hb fun x y H1 hx hy Q q => by
    rw [hx.str_eq, hy.str_eq]
    refine ⟨rfl, ?_⟩
    rw [show decide (V.str z = V.str w) = decide (z = w) by rw [dec_str, Bool.beq_eq_decide_eq]]
    exact q _ H1 (Le.refl _) (.bl _)
theorem ev_eqD (ha : EvD f ta σ H d) (hb : EvD f tb σ H e) (sd : SeqAt.shaped d = true) (se : SeqAt.shaped e = true) : EvD f (tOp (rEqD K) ta tb) σ H (.bool (PyData.eqv d e)) :=
  ev_2 ha hb fun x y H1 hx hy Q q => ⟨d, e, Dt.dp K d x hx, Dt.dp K e y hy, sd, se, q _ H1 (Le.refl _) (.bl _)⟩
theorem ev_neD (ha : EvD f ta σ H d) (hb : EvD f tb σ H e) (sd : SeqAt.shaped d = true) (se : SeqAt.shaped e = true) : EvD f (tOp (rNeD K) ta tb) σ H (.bool (!PyData.eqv d e)) :=
  ev_2 ha hb fun x y H1 hx hy Q q => ⟨d, e, Dt.dp K d x hx, Dt.dp K e y hy, sd, se, q _ H1 (Le.refl _) (.bl _)⟩
theorem atI_map {vs : List V} {ds : List PyData} (h : DtA H vs ds) (e : atI ds i = some d) : ∃ v, atI vs i = some v ∧ Dt H v d := by
  unfold atI at e ⊢
  rw [h.length]
  obtain ⟨k, hk, e⟩ := Option.bind_eq_some_iff.mp e
  obtain ⟨v, hv, hd⟩ := h.get e
  exact ⟨v, by rw [hk]; exact hv, hd⟩
theorem ev_ixT {ds : List PyData} (ha : EvD f ta σ H (.tuple ds)) (hb : EvD f tb σ H (.int i)) (hi : atI ds i = some d) : EvD f (tOp (rIxT K) ta tb) σ H d :=
  ev_2 ha hb fun x y H1 hx hy Q q => by
    obtain ⟨a, xs, rfl, h1, h2⟩ := hx.tup_inv
    obtain ⟨v, hv, hd⟩ := atI_map h2 hi
    exact ⟨a, xs, i, v, rfl, hy.int_eq, SqT.of h1, hv, q v H1 (Le.refl _) hd⟩
theorem ev_ixL {l : Addr} {vs : List V} {ds : List PyData} (ha : EvV f ta σ H (.ref l)) (hl : H l = some (.lst vs)) (hB : ¬ f.B l) (hs : DtA H vs ds) (hb : EvD f tb σ H (.int i)) (hi : atI ds i = some d) : EvD f (tOp (rIxL K) ta tb) σ H d := fun H1 e1 Q q =>
  ha H1 e1 _ fun H2 e2 => hb H2 (e1.trans e2) _ fun y H3 e3 hy => by
    have e13 := (e1.trans e2).trans e3
    obtain ⟨v, hv, hd⟩ := atI_map (hs.to e13.tup) hi
    exact ⟨l, vs, i, v, rfl, hy.int_eq, SqL.of (e13.keep _ _ hB hl), hv, q v H3 (e2.trans e3) hd⟩
theorem ea_nil : EvA f tNil σ H [] := fun H1 _ _ q => q [] H1 (Le.refl _) .nil
theorem ea_cons {ds : List PyData} (h : EvD f ta σ H d) (hr : EvA f tr σ H ds) : EvA f (tCons ta tr) σ H (d :: ds) := fun H1 e _ q =>
  h H1 e _ fun v H2 e2 hv => hr H2 (e.trans e2) _ fun vs H3 e3 hvs => q _ H3 (e2.trans e3) (.cons (hv.to e3.tup) hvs)
theorem small {n : Nat} (h : n ≤ 1000000) : n ≤ sizeLine := by rw [sizeLine_eq]; omega
theorem ev_tup {ds : List PyData} (h : EvA f tr σ H ds) (hl : ds.length ≤ 1000000 := by exact Nat.le_of_ble_eq_true rfl) : EvD f (tTup tr) σ H (.tuple ds) := fun H1 e _ q =>
  h H1 e _ fun vs H2 e2 hv => ⟨by rw [hv.length]; exact small hl, fun p hp => q _ _ (e2.trans (Le.new hp)) (.tup upd_same (hv.to (TLe.new hp)))⟩
theorem el_lst {ds : List PyData} (h : EvA f tr σ H ds) (hf : ∀ p, ¬ f.B p) (hl : ds.length ≤ 1000000 := by exact Nat.le_of_ble_eq_true rfl) : EvL f (tLst tr) σ H ds := fun H1 e _ q =>
  h H1 e _ fun vs H2 e2 hv => ⟨by rw [hv.length]; exact small hl, fun p hp => q p vs _ (e2.trans (Le.new hp)) (e2.back (hf p) hp) upd_same (hv.to (TLe.new hp))⟩
theorem ev_call {sp : Sp} {ds : List PyData} {E : XK} (h : EvA f tr σ H ds) (hp : ∀ H1 vs, Le f H H1 → DtA H1 vs ds → ∀ Q, RetD H1 Q d → sp vs H1 Q E) (hf : ∀ H H', Same H H' → Le f H H') : EvD f (tCall sp [] E tr) σ H d := fun H1 e Q q =>
  h H1 e _ fun vs H2 e2 hv => by
    rw [List.append_nil]
    exact hp H2 vs (e.trans e2) hv Q fun v H3 e3 hd => q v H3 (e2.trans (hf _ _ e3)) hd
theorem ev_and (h1 : EvD f ta σ H (.bool b)) (h2 : b = true → EvD f tb σ H (.bool c)) : EvD f (tAndV ta tb) σ H (.bool (b && c)) := fun H1 e Q q =>
  h1 H1 e _ fun x H2 e2 hx => ⟨b, hx.bl_eq, by
    cases b with
    | true => exact h2 rfl H2 (e.trans e2) Q fun v H3 e3 hv => q v H3 (e2.trans e3) hv
    | false => exact q _ H2 e2 (.bl false)⟩
theorem ev_or (h1 : EvD f ta σ H (.bool b)) (h2 : b = false → EvD f tb σ H (.bool c)) : EvD f (tOrV ta tb) σ H (.bool (b || c)) := fun H1 e Q q =>
  h1 H1 e _ fun x H2 e2 hx => ⟨b, hx.bl_eq, by
    cases b with
    | false => exact h2 rfl H2 (e.trans e2) Q fun v H3 e3 hv => q v H3 (e2.trans e3) hv
    | true => exact q _ H2 e2 (.bl true)⟩
theorem ev_not (h1 : EvD f ta σ H (.bool b)) : EvD f (tNotV ta) σ H (.bool (!b)) := fun H1 e Q q => h1 H1 e _ fun x H2 e2 hx => ⟨b, hx.bl_eq, q _ H2 e2 (.bl _)⟩
theorem ev_if (h : EvT f tt σ H b) (h1 : b = true → EvD f ta σ H d) (h2 : b = false → EvD f tb σ H d) : EvD f (tIf tt ta tb) σ H d := fun H1 e Q q => h H1 e _ fun H2 e2 => by
  cases b with
  | true => exact h1 rfl H2 (e.trans e2) Q fun v H3 e3 hv => q v H3 (e2.trans e3) hv
  | false => exact h2 rfl H2 (e.trans e2) Q fun v H3 e3 hv => q v H3 (e2.trans e3) hv
theorem ev_chain {F G : Int → Int → Bool} {k : Int} (ha : EvD f ta σ H (.int i)) (hb : EvD f tb σ H (.int j)) (hc : F i j = true → EvD f tc σ H (.int k)) :
    EvD f (tChain (rI0 fun i j => .bl (F i j)) (rI0 fun i j => .bl (G i j)) ta tb tc) σ H (.bool (F i j && G j k)) := fun H1 e Q q =>
  ha H1 e _ fun x H2 e2 hx => hb H2 (e.trans e2) _ fun y H3 e3 hy => ⟨i, j, hx.int_eq, hy.int_eq, F i j, rfl, by
    cases hF : F i j with
    | true => exact hc hF H3 ((e.trans e2).trans e3) _ fun z H4 e4 hz => ⟨j, k, hy.int_eq, hz.int_eq, q _ H4 ((e2.trans e3).trans e4) (by rw [hF]; exact .bl _)⟩
    | false => exact q _ H3 (e2.trans e3) (by rw [hF]; exact .bl false)⟩
/-! tests -/
theorem et_B (h : EvD f te σ H (.bool b)) : EvT f (tB te) σ H b := fun H1 e _ q => h H1 e _ fun x H2 e2 hx => ⟨b, hx.bl_eq, q H2 e2⟩
theorem et_test (h : EvD f te σ H (.bool b)) : EvT f (tTest te) σ H b := fun H1 e _ q => h H1 e _ fun x H2 e2 hx => ⟨b, hx.bl_eq, q H2 e2⟩
theorem et_and (h1 : EvT f tt σ H b) (h2 : b = true → EvT f tu σ H c) : EvT f (tAnd tt tu) σ H (b && c) := fun H1 e Q q => h1 H1 e _ fun H2 e2 => by
  cases b with
  | true => exact h2 rfl H2 (e.trans e2) Q fun H3 e3 => q H3 (e2.trans e3)
  | false => exact q H2 e2
theorem et_or (h1 : EvT f tt σ H b) (h2 : b = false → EvT f tu σ H c) : EvT f (tOr tt tu) σ H (b || c) := fun H1 e Q q => h1 H1 e _ fun H2 e2 => by
  cases b with
  | false => exact h2 rfl H2 (e.trans e2) Q fun H3 e3 => q H3 (e2.trans e3)
  | true => exact q H2 e2
theorem et_not (h1 : EvT f tt σ H b) : EvT f (tNot tt) σ H (!b) := fun H1 e _ q => h1 H1 e _ fun H2 e2 => q H2 e2
theorem et_yes : EvT f tYes σ H true := fun H1 _ _ q => q H1 (Le.refl _)
end
/-! ### built-ins, by names of their own -/
def rLenQ (K : PySem.W.Frag) : List V → Hp → VK → Prop := fun xs H Q => ∃ p ys, xs = [.ref p] ∧ (SqL K H p ys ∨ SqT K H p ys) ∧ Q (.int ys.length) H
def rIntQ : List V → Hp → VK → Prop := fun xs H Q => (∃ i, xs = [.int i] ∧ Q (.int i) H) ∨ ∃ k, xs = [.bl k] ∧ Q (.int (if k then 1 else 0)) H
def rMin2Q : List V → Hp → VK → Prop := fun xs H Q => ∃ i j, xs = [.int i, .int j] ∧ Q (.int (if j < i then j else i)) H
def rTupQ (K : PySem.W.Frag) : List V → Hp → VK → Prop := fun xs H Q => ∃ p ys, xs = [.ref p] ∧ ((SqL K H p ys ∧ ∀ l, H l = none → Q (.ref l) (upd H l (.tup ys))) ∨ (SqT K H p ys ∧ Q (.ref p) H))
def rListQ (K : PySem.W.Frag) : List V → Hp → VK → Prop := fun xs H Q => ∃ p ys, xs = [.ref p] ∧ (SqL K H p ys ∨ SqT K H p ys) ∧ ∀ l, H l = none → Q (.ref l) (upd H l (.lst ys))
section
variable {X : Cx}
theorem cl_len (K : PySem.W.Frag) (h : X.K = K) : CallR X (.builtin "len") (rLenQ K) := h ▸ call_len_seq
theorem cl_int : CallR X (.type "int") rIntQ := call_int1
theorem cl_min2 (hc : X.calm = true) : CallR X (.builtin "min") rMin2Q := call_min2 hc
theorem cl_tuple (K : PySem.W.Frag) (h : X.K = K) : CallR X (.type "tuple") (rTupQ K) := h ▸ call_tuple_of
theorem cl_list (K : PySem.W.Frag) (h : X.K = K) : CallR X (.type "list") (rListQ K) := h ▸ call_list_of
theorem cl_isi (K : PySem.W.Frag) (h : X.K = K) : CallR X (.builtin "isinstance") (rIsi K) := h ▸ call_isi
theorem cl_isiT (K : PySem.W.Frag) (h : X.K = K) : CallR X (.builtin "isinstance") (rIsiT K) := h ▸ call_isiT
theorem cl_all (K : PySem.W.Frag) (h : X.K = K) (hc : X.calm = true) : CallR X (.builtin "all") (rAll K) := h ▸ cr_all hc
theorem cl_any (K : PySem.W.Frag) (h : X.K = K) (hc : X.calm = true) : CallR X (.builtin "any") (rAny K) := h ▸ cr_any hc
theorem cl_sum (K : PySem.W.Frag) (h : X.K = K) (hc : X.calm = true) : CallR X (.builtin "sum") (rSum K) := h ▸ cr_sum hc
theorem cl_max (K : PySem.W.Frag) (h : X.K = K) (hc : X.calm = true) : CallR X (.builtin "max") (rMax K) := h ▸ cr_max hc
theorem ixL (K : PySem.W.Frag) (h : X.K = K) : IxR X (rIxL K) := h ▸ ix_list
theorem ixT (K : PySem.W.Frag) (h : X.K = K) : IxR X (rIxT K) := h ▸ ix_tup
theorem opEqD (K : PySem.W.Frag) (h : X.K = K) (hu : X.A.units + 64 < cLine) : OpR X (compareOp .Eq) (rEqD K) := h ▸ op_eqD hu
theorem opNeD (K : PySem.W.Frag) (h : X.K = K) (hu : X.A.units + 64 < cLine) : OpR X (compareOp .NotEq) (rNeD K) := h ▸ op_neD hu
theorem opInD (K : PySem.W.Frag) (h : X.K = K) (hu : X.A.units + 65 < cLine) : OpR X (compareOp .NotIn) (rNotInD K) := h ▸ op_notInD hu
theorem opIn (K : PySem.W.Frag) (h : X.K = K) : OpR X (compareOp .In) (rIn K false) := h ▸ op_in_seq
theorem opNotIn (K : PySem.W.Frag) (h : X.K = K) : OpR X (compareOp .NotIn) (rIn K true) := h ▸ op_notIn_seq
theorem opCatA (K : PySem.W.Frag) (h : X.K = K) : OpR X (binaryOp .Add) (rCatA K) := h ▸ op_catA
theorem slTupA (K : PySem.W.Frag) (h : X.K = K) : SlR X (rSlA K) := h ▸ sl_tupA
theorem mtIndex (K : PySem.W.Frag) (h : X.K = K) : MtR X "list.index" (rIndex K) := h ▸ mt_index
theorem mtIndexD (K : PySem.W.Frag) (h : X.K = K) (hu : X.A.units + 65 < cLine) : MtR X "list.index" (rIndexD K) := h ▸ mt_indexD hu
theorem pe_bmK (K : PySem.W.Frag) (h : X.K = K) {o e : Expr} {es : List Expr} {to : TE} {t : TA} {name : Str} {apos cpos : Pos} {T id : String} {r : V → List V → Hp → VK → Prop} (pa : PlainAttrs T) (slot : Slot T name id) (hty : typeOf (.builtin id) = pure (.type "method_descriptor")) (hm : MtR X id r) (ho : PE X o to) (ha : PA X (e :: es) t)
    (hbase : attributeBase o name X.env (eval o X.env) = eval o X.env := by rfl)
    (hfew : ((backTo cpos (starEach (e :: es) X.env)).all (fun x => !x.1) && (backToKw cpos (keywordEach [] X.env)).all (fun x => x.1.isSome)
      && decide ((e :: es).length + ([] : List Keyword).length + (if ([] : List Keyword).isEmpty then 0 else 1) < 30)) = true := by rfl)
    (hline : (apos.endLine == cpos.line) = true := by rfl) (hs : starEach (e :: es) X.env = (false, eval e X.env) :: starEach es X.env := by rfl) (hplain : (backTo cpos (starEach es X.env)).any (·.1) = false := by rfl) :
    PE X (.Call (.Attribute o name apos) (e :: es) [] cpos) (tBM K T r to t) := h ▸ pe_bm pa slot hty hm ho ha hbase hfew hline hs hplain
end
section
variable {f : Fx} {σ : L2.St} {H : Hp} {K : PySem.W.Frag} {ta tb te : TE} {tr : TA} {d e : PyData} {i j : Int} {b : Bool} {ds : List PyData}
theorem ev_lenT (h : EvD f te σ H (.tuple ds)) : EvD f (tCB (rLenQ K) (tCons te tNil)) σ H (.int (ds.length : Int)) := fun H1 e1 Q q =>
  h H1 e1 _ fun x H2 e2 hx => by
    obtain ⟨a, xs, rfl, h1, h2⟩ := hx.tup_inv
    refine ⟨a, xs, rfl, .inr (SqT.of h1), ?_⟩
    rw [h2.length]
    exact q _ H2 e2 (.int _)
theorem ev_lenL {l : Addr} {vs : List V} (h : EvV f te σ H (.ref l)) (hl : H l = some (.lst vs)) (hB : ¬ f.B l) : EvD f (tCB (rLenQ K) (tCons te tNil)) σ H (.int (vs.length : Int)) := fun H1 e1 Q q =>
  h H1 e1 _ fun H2 e2 => ⟨l, vs, rfl, .inl (SqL.of ((e1.trans e2).keep _ _ hB hl)), q _ H2 e2 (.int _)⟩
theorem ev_lenN (h : EvL f te σ H ds) : EvD f (tCB (rLenQ K) (tCons te tNil)) σ H (.int (ds.length : Int)) := fun H1 e1 Q q =>
  h H1 e1 _ fun p vs H2 e2 _ hp hv => by
    refine ⟨p, vs, rfl, .inl (SqL.of hp), ?_⟩
    rw [hv.length]
    exact q _ H2 e2 (.int _)
theorem ev_intI (h : EvD f te σ H (.int i)) : EvD f (tCB rIntQ (tCons te tNil)) σ H (.int i) := fun H1 e1 Q q =>
  h H1 e1 _ fun x H2 e2 hx => .inl ⟨i, by rw [hx.int_eq], q _ H2 e2 (.int _)⟩
theorem ev_intB (h : EvD f te σ H (.bool b)) : EvD f (tCB rIntQ (tCons te tNil)) σ H (.int (if b = true then 1 else 0)) := fun H1 e1 Q q =>
  h H1 e1 _ fun x H2 e2 hx => .inr ⟨b, by rw [hx.bl_eq], q _ H2 e2 (.int _)⟩
theorem ev_min2 (ha : EvD f ta σ H (.int i)) (hb : EvD f tb σ H (.int j)) : EvD f (tCB rMin2Q (tCons ta (tCons tb tNil))) σ H (.int (if j < i then j else i)) := fun H1 e1 Q q =>
  ha H1 e1 _ fun x H2 e2 hx => hb H2 (e1.trans e2) _ fun y H3 e3 hy => ⟨i, j, by rw [hx.int_eq, hy.int_eq], q _ H3 (e2.trans e3) (.int _)⟩
/-- tuple(a new list), tuple(a list that stands) -/
theorem ev_tupN (h : EvL f te σ H ds) : EvD f (tCB (rTupQ K) (tCons te tNil)) σ H (.tuple ds) := fun H1 e1 Q q =>
  h H1 e1 _ fun p vs H2 e2 _ hp hv => ⟨p, vs, rfl, .inl ⟨SqL.of hp, fun l hl => q _ _ (e2.trans (Le.new hl)) (.tup upd_same (hv.to (TLe.new hl)))⟩⟩
theorem ev_tupL {l : Addr} {vs : List V} (h : EvV f te σ H (.ref l)) (hl : H l = some (.lst vs)) (hB : ¬ f.B l) (hv : DtA H vs ds) : EvD f (tCB (rTupQ K) (tCons te tNil)) σ H (.tuple ds) := fun H1 e1 Q q =>
  h H1 e1 _ fun H2 e2 => ⟨l, vs, rfl, .inl ⟨SqL.of ((e1.trans e2).keep _ _ hB hl), fun p hp => q _ _ (e2.trans (Le.new hp)) (.tup upd_same ((hv.to (e1.trans e2).tup).to (TLe.new hp)))⟩⟩
theorem el_listT (h : EvD f te σ H (.tuple ds)) (hf : ∀ p, ¬ f.B p) : EvL f (tCB (rListQ K) (tCons te tNil)) σ H ds := fun H1 e1 Q q =>
  h H1 e1 _ fun x H2 e2 hx => by
    obtain ⟨a, xs, rfl, h1, h2⟩ := hx.tup_inv
    exact ⟨a, xs, rfl, .inr (SqT.of h1), fun l hl => q l xs _ (e2.trans (Le.new hl)) (e2.back (hf l) hl) upd_same (h2.to (TLe.new hl))⟩
theorem ev_all {bs : List Bool} (h : EvL f te σ H (bs.map PyData.bool)) : EvD f (tCB (rAll K) (tCons te tNil)) σ H (.bool (bs.all id)) := fun H1 e1 Q q =>
  h H1 e1 _ fun p vs H2 e2 _ hp hv => ⟨p, bs, rfl, by rw [← hv.bls]; exact SqL.of hp, q _ H2 e2 (.bl _)⟩
theorem ev_any {bs : List Bool} (h : EvL f te σ H (bs.map PyData.bool)) : EvD f (tCB (rAny K) (tCons te tNil)) σ H (.bool (bs.any id)) := fun H1 e1 Q q =>
  h H1 e1 _ fun p vs H2 e2 _ hp hv => ⟨p, bs, rfl, by rw [← hv.bls]; exact SqL.of hp, q _ H2 e2 (.bl _)⟩
theorem ev_sum {ns : List Int} (h : EvL f te σ H (ns.map PyData.int)) : EvD f (tCB (rSum K) (tCons te tNil)) σ H (.int ns.sum) := fun H1 e1 Q q =>
  h H1 e1 _ fun p vs H2 e2 _ hp hv => ⟨p, ns, rfl, by rw [← hv.ints]; exact SqL.of hp, q _ H2 e2 (.int _)⟩
def tyN : PyData → String
  | .none => "NoneType"
  | .bool _ => "bool"
  | .int _ => "int"
  | .str _ => "str"
  | .list _ => "list"
  | .tuple _ => "tuple"
  | .dict _ => "dict"
theorem Dt.ty {v : V} (h : Dt H v d) : TyX K H v (.type (tyN d)) := by
  cases h with
  | non => exact .base .non
  | bl b => exact .base (.bl b)
  | int i => exact .base (.int i)
  | str x => exact .base (.str x)
  | tup h1 h2 => exact .base (.tup h1)
/-- isinstance(x, T) -/
theorem ev_isi {T : String} (h : EvD f te σ H d) (hb : kitB (tyN d) T = some b) : EvD f (tCB (rIsi K) (tCons te (tCons (tC (.ty T)) tNil))) σ H (.bool b) := fun H1 e1 Q q =>
  h H1 e1 _ fun x H2 e2 hx => ⟨x, .ty T, .type (tyN d), .type T, b, rfl, .ty T, hx.ty, kit_ty hb, q _ H2 e2 (.bl _)⟩
end
/-! ### readings opened one step -/
section
variable {σ : L2.St} {H : Hp} {K : PySem.W.Frag} {te ta tb : TE} {tr : TA} {tt : TT} {tu tw tz : TS} {g : TG} {D : Ends} {Q : VK} {QA : List V → Hp → Prop} {QT : Bool → Hp → Prop} {r : R2} {sp : Sp} {E : XK}
theorem r_seq (h : tu { D with nx := tz D } σ H) : tSeq tu tz D σ H := h
theorem n_set {n : Nat} (h : te σ H fun x H1 => tz D (σ.set n (some x)) H1) : tSeq (tAsg te (gName n)) tz D σ H := h
theorem n_set1 {n : Nat} (h : te σ H fun x H1 => D.nx (σ.set n (some x)) H1) : tAsg te (gName n) D σ H := h
theorem n_if (h : tt σ H fun b H1 => if b = true then tu { D with nx := tz D } σ H1 else tw { D with nx := tz D } σ H1) : tSeq (tIfS tt tu tw) tz D σ H := h
theorem n_when (h : tt σ H fun b H1 => if b = true then tu { D with nx := tz D } σ H1 else tz D σ H1) : tSeq (tIfS tt tu tNext) tz D σ H := h
theorem n_for {wi : TI} (h : tFor wi g tu { D with nx := tz D } σ H) : tSeq (tFor wi g tu) tz D σ H := h
theorem n_while (h : tWhile tt tu { D with nx := tz D } σ H) : tSeq (tWhile tt tu) tz D σ H := h
theorem n_drop (h : te σ H fun _ H1 => tz D σ H1) : tSeq (tDrop te) tz D σ H := h
theorem r_asg (h : te σ H fun x H1 => g x σ H1 D.nx) : tAsg te g D σ H := h
theorem r_ret (h : te σ H D.rt) : tRet te D σ H := h
theorem r_drop (h : te σ H fun _ H1 => D.nx σ H1) : tDrop te D σ H := h
theorem r_if (h : tt σ H fun b H1 => if b = true then tu D σ H1 else tw D σ H1) : tIfS tt tu tw D σ H := h
theorem r_op (h : ta σ H fun x H1 => tb σ H1 fun y H2 => r x y H2 Q) : tOp r ta tb σ H Q := h
theorem r_call1 (h : te σ H fun x H1 => sp [x] H1 Q E) : tCall sp [] E (tCons te tNil) σ H Q := h
theorem r_call2 (h : ta σ H fun x H1 => tb σ H1 fun y H2 => sp [x, y] H2 Q E) : tCall sp [] E (tCons ta (tCons tb tNil)) σ H Q := h
theorem r_cb1 {rr : List V → Hp → VK → Prop} (h : te σ H fun x H1 => rr [x] H1 Q) : tCB rr (tCons te tNil) σ H Q := h
theorem r_test (h : te σ H fun x H1 => ∃ k, x = .bl k ∧ QT k H1) : tTest te σ H QT := h
theorem r_tB (h : te σ H fun x H1 => ∃ k, x = .bl k ∧ QT k H1) : tB te σ H QT := h
theorem r_not (h : tt σ H fun c H1 => QT (!c) H1) : tNot tt σ H QT := h
end
/-! ### statements -/
section
variable {f : Fx} {σ : L2.St} {H : Hp} {K : PySem.W.Frag} {te : TE} {tt : TT} {tu tw tz : TS} {d : PyData} {b : Bool} {D : Ends} {v : V} {ds : List PyData}
theorem s_asg {n : Nat} (h : EvD f te σ H d) (k : ∀ v H1, Le f H H1 → Dt H1 v d → D.nx (σ.set n (some v)) H1) : tAsg te (gName n) D σ H := h H (Le.refl _) _ fun v H1 e hv => k v H1 e hv
theorem s_asgL {n : Nat} (h : EvL f te σ H ds) (k : ∀ p vs H1, Le f H H1 → H p = none → H1 p = some (.lst vs) → DtA H1 vs ds → D.nx (σ.set n (some (.ref p))) H1) : tAsg te (gName n) D σ H := h H (Le.refl _) _ fun p vs H1 e hp h1 hv => k p vs H1 e hp h1 hv
theorem s_ret (h : EvD f te σ H d) (k : ∀ v H1, Le f H H1 → Dt H1 v d → D.rt v H1) : tRet te D σ H := h H (Le.refl _) _ fun v H1 e hv => k v H1 e hv
theorem s_drop (h : EvD f te σ H d) (k : ∀ H1, Le f H H1 → D.nx σ H1) : tDrop te D σ H := h H (Le.refl _) _ fun v H1 e hv => k H1 e
theorem s_if (h : EvT f tt σ H b) (h1 : b = true → ∀ H1, Le f H H1 → tu D σ H1) (h2 : b = false → ∀ H1, Le f H H1 → tw D σ H1) : tIfS tt tu tw D σ H := h H (Le.refl _) _ fun H1 e => by
  cases b with
  | true => exact h1 rfl H1 e
  | false => exact h2 rfl H1 e
theorem s_seq (h : tu { D with nx := tz D } σ H) : tSeq tu tz D σ H := h
/-- l.append(e) -/
theorem s_app {l : Addr} {vs : List V} {ta : TE} (ha : EvV f ta σ H (.ref l)) (hl : H l = some (.lst vs)) (hB : ¬ f.B l) (h : EvD f te σ H d) (hz : vs.length < 1000000) (k : ∀ v H1, Le f H H1 → Dt H1 v d → H1 l = some (.lst vs) → D.nx σ (upd H1 l (.lst (vs ++ [v])))) :
    tDrop (tBM K "list" rAppend ta (tCons te tNil)) D σ H := ha H (Le.refl _) _ fun H1 e1 => ⟨Or.inl ⟨rfl, vs, SqL.of (e1.keep _ _ hB hl)⟩, h H1 e1 _ fun v H2 e2 hv =>
  ⟨l, vs, v, rfl, rfl, (e1.trans e2).keep _ _ hB hl, by rw [sizeLine_eq]; omega, k v H2 (e1.trans e2) hv ((e1.trans e2).keep _ _ hB hl)⟩⟩
end
/-- the pure effect is under every call's -/
theorem f0_same : ∀ H H' : Hp, Same H H' → Le f0 H H' := fun _ _ e => same_le e
theorem f0_no : ∀ p, ¬ f0.B p := fun _ h => h
/-! ### comprehensions whose turns leave all as it is -/
section
variable {f : Fx} {σ : L2.St} {H : Hp} {K : PySem.W.Frag} {tl te : TE} {tt : TT} {g : TG} {ws : List Nat} {α : Type}
/-- the turns, over data of one kind: p says which are kept, F what is made -/
theorem lc_turns {J : It} {n : Nat} {G : Hp → Prop} {Y : Nat → Hp → V → Hp → Prop} (w : Walk J n G Y) (xs : List α) (hn : n = xs.length) (hB : ∀ p, ¬ f.B p) (p : α → Bool) (F : α → PyData) (hsz : xs.length ≤ 1000000)
    {H0 H1 : Hp} {D : Addr} {Qd : Hp → Prop} (hD : H1 D = none) (e01 : Le f H0 H1) (hG : ∀ H2, Le f H1 H2 → G H2)
    (turn : ∀ i x, xs[i]? = some x → ∀ v H2 H3, Le f H1 H2 → Y i H2 v H3 → ∃ σ2, (∀ R : L2.St → Hp → Prop, (∀ H4, Le f H3 H4 → R σ2 H4) → g v (wipe σ ws) H3 R) ∧ Le f H2 H3 ∧ wipe σ2 ws = wipe σ ws ∧ EvT f tt σ2 H3 (p x) ∧ (p x = true → EvD f te σ2 H3 (F x)))
    (hd : ∀ vs H2, Le f H1 H2 → H2 D = some (.lst vs) → DtA H2 vs ((xs.filter p).map F) → Qd H2) :
    ∃ W : Nat → Nat → Hp → Prop, (∃ m, W 0 m (upd H1 D (.lst []))) ∧ ∀ i m H, W i m H →
      (J.stop i H ∧ Qd H) ∨ (J.go i H ∧ ∃ Nx : Hp → Prop, (∀ H', Nx H' → ∃ m', m' < m ∧ W (i + 1) m' H') ∧ ∀ x H', J.yld i H x H' → g x (wipe σ ws) H' fun σ2 H2 => wipe σ2 ws = wipe σ ws ∧ tt σ2 H2 fun b H3 =>
        if b = true then te σ2 H3 fun y H4 => ∃ acc, H4 D = some (.lst acc) ∧ acc.length < sizeLine ∧ Nx (upd H4 D (.lst (acc ++ [y]))) else Nx H3) := by
  subst hn
  refine lc_it w (fun i H2 => Le f H1 H2 ∧ ∃ vs, H2 D = some (.lst vs) ∧ DtA H2 vs (((xs.take i).filter p).map F)) ⟨Le.new hD, [], upd_same, .nil⟩ (fun i H2 _ h => hG H2 h.1) (fun i v H2 H3 hi h y => ?_) fun H2 h => ?_
  · obtain ⟨e12, vs, h1, h2⟩ := h
    have hx : xs[i]? = some xs[i] := by simp [hi]
    obtain ⟨σ2, hg, e23, hw, ht, he⟩ := turn i xs[i] hx v H2 H3 e12 y
    have lt : vs.length < sizeLine := by
      rw [h2.length, List.length_map]
      have q := List.length_filter_le p (xs.take i)
      rw [List.length_take] at q
      rw [sizeLine_eq]; omega
    have tk : xs.take (i + 1) = xs.take i ++ [xs[i]] := by rw [List.take_succ, hx]; rfl
    refine hg _ fun H4 e34 => ⟨hw, ht H4 e34 _ fun H5 e45 => ?_⟩
    cases hp : p xs[i] with
    | true =>
      refine he hp H5 (e34.trans e45) _ fun y H6 e56 hy => ?_
      have e26 := ((e23.trans e34).trans e45).trans e56
      have h6 : H6 D = some (.lst vs) := e26.keep _ _ (hB D) h1
      have tl : TLe H6 (upd H6 D (.lst (vs ++ [y]))) := TLe.set h6 fun xs z => by cases z
      refine ⟨vs, h6, lt, ⟨fun a o nb e => ?_, (e12.trans e26).tup.trans tl, fun j => ?_⟩, vs ++ [y], upd_same, ?_⟩
      · rw [upd_ne (ne_of_none e hD)]
        exact (e12.trans e26).keep a o nb e
      · exact f.st j hD ((e12.trans e26).inv j)
      · rw [tk, List.filter_append, List.map_append]
        have : ([xs[i]].filter p) = [xs[i]] := by simp [hp]
        rw [this]
        exact ((h2.to e26.tup).snoc hy).to tl
    | false =>
      refine ⟨e12.trans ((e23.trans e34).trans e45), vs, ((e23.trans e34).trans e45).keep _ _ (hB D) h1, ?_⟩
      rw [tk, List.filter_append, List.map_append]
      have : ([xs[i]].filter p) = [] := by simp [hp]
      rw [this]
      simpa using h2.to ((e23.trans e34).trans e45).tup
  · obtain ⟨e12, vs, h1, h2⟩ := h
    rw [List.take_length] at h2
    exact hd vs H2 e12 h1 h2
/-- [e for x in t if c], t a tuple of data -/
theorem el_lcT1 {j : Nat} (xs : List α) (enc : α → PyData) (p : α → Bool) (F : α → PyData) (hl : EvD f tl σ H (.tuple (xs.map enc))) (hB : ∀ q, ¬ f.B q) (hsz : xs.length ≤ 1000000) (hw : ∀ v, wipe ((wipe σ ws).set j (some v)) ws = wipe σ ws)
    (turn : ∀ x ∈ xs, ∀ v H1, Le f H H1 → Dt H1 v (enc x) → EvT f tt ((wipe σ ws).set j (some v)) H1 (p x) ∧ (p x = true → EvD f te ((wipe σ ws).set j (some v)) H1 (F x))) :
    EvL f (tLc (iTup K tl) (gName j) tt te ws) σ H ((xs.filter p).map F) := fun H0 e0 Q q => hl H0 e0 _ fun v H1 e1 hv => by
  obtain ⟨a, us, rfl, h1, h2⟩ := hv.tup_inv
  refine ⟨a, rfl, ⟨us, SqT.of h1⟩, fun D hD => ?_⟩
  refine lc_turns (walk_tup (K := K) (a := a) (xs := us)) xs (by rw [h2.length, List.length_map]) hB p F hsz hD (Le.refl H1) (fun H2 e => SqT.of (e.tup _ _ h1)) (fun i x hx v H2 H3 e12 y => ?_) fun vs H2 e12 hp hvs => q D vs H2 (e1.trans e12) (e1.back (hB D) hD) hp hvs
  obtain ⟨rfl, hu⟩ := y
  obtain ⟨d, hd, hdt⟩ := h2.get' hu
  rw [List.getElem?_map, hx] at hd
  have ed : enc x = d := Option.some.inj hd
  subst ed
  obtain ⟨t1, t2⟩ := turn x (List.mem_of_getElem? hx) v H3 ((e0.trans e1).trans e12) (hdt.to e12.tup)
  exact ⟨_, fun R hR => hR H3 (Le.refl _), Le.refl _, hw v, t1, t2⟩
/-- [e for x, y in t if c], t a tuple of pairs -/
theorem el_lcT2 {j k : Nat} (xs : List α) (e1 e2 : α → PyData) (p : α → Bool) (F : α → PyData) (hl : EvD f tl σ H (.tuple (xs.map fun x => .tuple [e1 x, e2 x]))) (hB : ∀ q, ¬ f.B q) (hsz : xs.length ≤ 1000000)
    (hw : ∀ v w, wipe (((wipe σ ws).set j (some v)).set k (some w)) ws = wipe σ ws)
    (turn : ∀ x ∈ xs, ∀ v w H1, Le f H H1 → Dt H1 v (e1 x) → Dt H1 w (e2 x) → EvT f tt (((wipe σ ws).set j (some v)).set k (some w)) H1 (p x) ∧ (p x = true → EvD f te (((wipe σ ws).set j (some v)).set k (some w)) H1 (F x))) :
    EvL f (tLc (iTup K tl) (gTup K 2 (gCons (gName j) (gCons (gName k) gNil))) tt te ws) σ H ((xs.filter p).map F) := fun H0 e0 Q q => hl H0 e0 _ fun v H1 ee hv => by
  obtain ⟨a, us, rfl, h1, h2⟩ := hv.tup_inv
  refine ⟨a, rfl, ⟨us, SqT.of h1⟩, fun D hD => ?_⟩
  refine lc_turns (walk_tup (K := K) (a := a) (xs := us)) xs (by rw [h2.length, List.length_map]) hB p F hsz hD (Le.refl H1) (fun H2 e => SqT.of (e.tup _ _ h1)) (fun i x hx v H2 H3 e12 y => ?_) fun vs H2 e12 hp hvs => q D vs H2 (ee.trans e12) (ee.back (hB D) hD) hp hvs
  obtain ⟨rfl, hu⟩ := y
  obtain ⟨d, hd, hdt⟩ := h2.get' hu
  rw [List.getElem?_map, hx] at hd
  have ed : PyData.tuple [e1 x, e2 x] = d := Option.some.inj hd
  subst ed
  obtain ⟨b, ys, rfl, g1, g2⟩ := hdt.tup_inv
  cases g2 with
  | cons r1 g2 =>
    cases g2 with
    | cons r2 g2 =>
      cases g2
      obtain ⟨t1, t2⟩ := turn x (List.mem_of_getElem? hx) _ _ H3 ((e0.trans ee).trans e12) (r1.to e12.tup) (r2.to e12.tup)
      exact ⟨_, fun R hR => ⟨b, _, rfl, SqT.of (e12.tup _ _ g1), rfl, _, _, rfl, _, _, rfl, rfl, hR H3 (Le.refl _)⟩, Le.refl _, hw _ _, t1, t2⟩
/-- [e for x in l if c], l a list that stands -/
theorem el_lcL1 {j : Nat} {l : Addr} {us : List V} (xs : List α) (enc : α → PyData) (p : α → Bool) (F : α → PyData) (hl : EvV f tl σ H (.ref l)) (hL : H l = some (.lst us)) (hu : DtA H us (xs.map enc)) (hB : ∀ q, ¬ f.B q) (hsz : xs.length ≤ 1000000)
    (hw : ∀ v, wipe ((wipe σ ws).set j (some v)) ws = wipe σ ws)
    (turn : ∀ x ∈ xs, ∀ v H1, Le f H H1 → Dt H1 v (enc x) → EvT f tt ((wipe σ ws).set j (some v)) H1 (p x) ∧ (p x = true → EvD f te ((wipe σ ws).set j (some v)) H1 (F x))) :
    EvL f (tLc (iList K tl) (gName j) tt te ws) σ H ((xs.filter p).map F) := fun H0 e0 Q q => hl H0 e0 _ fun H1 e1 => by
  have e01 := e0.trans e1
  have h1 : H1 l = some (.lst us) := e01.keep _ _ (hB l) hL
  refine ⟨l, rfl, ⟨us, SqL.of h1⟩, fun D hD => ?_⟩
  refine lc_turns (walk_list (K := K) (a := l) (xs := us)) xs (by rw [hu.length, List.length_map]) hB p F hsz hD (Le.refl H1) (fun H2 e => SqL.of (e.keep _ _ (hB l) h1)) (fun i x hx v H2 H3 e12 y => ?_) fun vs H2 e12 hp hvs => q D vs H2 (e1.trans e12) (e1.back (hB D) hD) hp hvs
  obtain ⟨rfl, hv⟩ := y
  obtain ⟨d, hd, hdt⟩ := hu.get' hv
  rw [List.getElem?_map, hx] at hd
  have ed : enc x = d := Option.some.inj hd
  subst ed
  obtain ⟨t1, t2⟩ := turn x (List.mem_of_getElem? hx) v H3 (e01.trans e12) (hdt.to (e01.trans e12).tup)
  exact ⟨_, fun R hR => hR H3 (Le.refl _), Le.refl _, hw v, t1, t2⟩
/-- [e for x, y in l if c], l a list of pairs that stands -/
theorem el_lcL2 {j k : Nat} {l : Addr} {us : List V} (xs : List α) (e1 e2 : α → PyData) (p : α → Bool) (F : α → PyData) (hl : EvV f tl σ H (.ref l)) (hL : H l = some (.lst us)) (hu : DtA H us (xs.map fun x => .tuple [e1 x, e2 x])) (hB : ∀ q, ¬ f.B q) (hsz : xs.length ≤ 1000000)
    (hw : ∀ v w, wipe (((wipe σ ws).set j (some v)).set k (some w)) ws = wipe σ ws)
    (turn : ∀ x ∈ xs, ∀ v w H1, Le f H H1 → Dt H1 v (e1 x) → Dt H1 w (e2 x) → EvT f tt (((wipe σ ws).set j (some v)).set k (some w)) H1 (p x) ∧ (p x = true → EvD f te (((wipe σ ws).set j (some v)).set k (some w)) H1 (F x))) :
    EvL f (tLc (iList K tl) (gTup K 2 (gCons (gName j) (gCons (gName k) gNil))) tt te ws) σ H ((xs.filter p).map F) := fun H0 e0 Q q => hl H0 e0 _ fun H1 ee => by
  have e01 := e0.trans ee
  have h1 : H1 l = some (.lst us) := e01.keep _ _ (hB l) hL
  refine ⟨l, rfl, ⟨us, SqL.of h1⟩, fun D hD => ?_⟩
  refine lc_turns (walk_list (K := K) (a := l) (xs := us)) xs (by rw [hu.length, List.length_map]) hB p F hsz hD (Le.refl H1) (fun H2 e => SqL.of (e.keep _ _ (hB l) h1)) (fun i x hx v H2 H3 e12 y => ?_) fun vs H2 e12 hp hvs => q D vs H2 (ee.trans e12) (ee.back (hB D) hD) hp hvs
  obtain ⟨rfl, hv⟩ := y
  obtain ⟨d, hd, hdt⟩ := hu.get' hv
  rw [List.getElem?_map, hx] at hd
  have ed : PyData.tuple [e1 x, e2 x] = d := Option.some.inj hd
  subst ed
  obtain ⟨b, ys, rfl, g1, g2⟩ := hdt.tup_inv
  cases g2 with
  | cons r1 g2 =>
    cases g2 with
    | cons r2 g2 =>
      cases g2
      have tt' := (e01.trans e12).tup
      obtain ⟨t1, t2⟩ := turn x (List.mem_of_getElem? hx) _ _ H3 (e01.trans e12) (r1.to tt') (r2.to tt')
      exact ⟨_, fun R hR => ⟨b, _, rfl, SqT.of (tt' _ _ g1), rfl, _, _, rfl, _, _, rfl, rfl, hR H3 (Le.refl _)⟩, Le.refl _, hw _ _, t1, t2⟩
theorem flt_true (xs : List α) (F : α → PyData) : (xs.filter fun _ => true).map F = xs.map F := by rw [List.filter_eq_self.mpr (fun _ _ => rfl)]
theorem el_mapT1 {j : Nat} (xs : List α) (enc : α → PyData) (F : α → PyData) (hl : EvD f tl σ H (.tuple (xs.map enc))) (hB : ∀ q, ¬ f.B q) (hsz : xs.length ≤ 1000000) (hw : ∀ v, wipe ((wipe σ ws).set j (some v)) ws = wipe σ ws)
    (turn : ∀ x ∈ xs, ∀ v H1, Le f H H1 → Dt H1 v (enc x) → EvD f te ((wipe σ ws).set j (some v)) H1 (F x)) :
    EvL f (tLc (iTup K tl) (gName j) tYes te ws) σ H (xs.map F) := by
  have := el_lcT1 (K := K) (tt := tYes) xs enc (fun _ => true) F hl hB hsz hw fun x hx v H1 e hv => ⟨et_yes, fun _ => turn x hx v H1 e hv⟩
  rw [flt_true] at this
  exact this
theorem el_mapT2 {j k : Nat} (xs : List α) (e1 e2 : α → PyData) (F : α → PyData) (hl : EvD f tl σ H (.tuple (xs.map fun x => .tuple [e1 x, e2 x]))) (hB : ∀ q, ¬ f.B q) (hsz : xs.length ≤ 1000000)
    (hw : ∀ v w, wipe (((wipe σ ws).set j (some v)).set k (some w)) ws = wipe σ ws)
    (turn : ∀ x ∈ xs, ∀ v w H1, Le f H H1 → Dt H1 v (e1 x) → Dt H1 w (e2 x) → EvD f te (((wipe σ ws).set j (some v)).set k (some w)) H1 (F x)) :
    EvL f (tLc (iTup K tl) (gTup K 2 (gCons (gName j) (gCons (gName k) gNil))) tYes te ws) σ H (xs.map F) := by
  have := el_lcT2 (K := K) (tt := tYes) xs e1 e2 (fun _ => true) F hl hB hsz hw fun x hx v w H1 e hv hw => ⟨et_yes, fun _ => turn x hx v w H1 e hv hw⟩
  rw [flt_true] at this
  exact this
theorem el_mapL1 {j : Nat} {l : Addr} {us : List V} (xs : List α) (enc : α → PyData) (F : α → PyData) (hl : EvV f tl σ H (.ref l)) (hL : H l = some (.lst us)) (hu : DtA H us (xs.map enc)) (hB : ∀ q, ¬ f.B q) (hsz : xs.length ≤ 1000000)
    (hw : ∀ v, wipe ((wipe σ ws).set j (some v)) ws = wipe σ ws)
    (turn : ∀ x ∈ xs, ∀ v H1, Le f H H1 → Dt H1 v (enc x) → EvD f te ((wipe σ ws).set j (some v)) H1 (F x)) :
    EvL f (tLc (iList K tl) (gName j) tYes te ws) σ H (xs.map F) := by
  have := el_lcL1 (K := K) (tt := tYes) xs enc (fun _ => true) F hl hL hu hB hsz hw fun x hx v H1 e hv => ⟨et_yes, fun _ => turn x hx v H1 e hv⟩
  rw [flt_true] at this
  exact this
theorem ev_all' {p : α → Bool} {xs : List α} (h : EvL f te σ H (xs.map fun x => .bool (p x))) : EvD f (tCB (rAll K) (tCons te tNil)) σ H (.bool (xs.all p)) := by
  have := ev_all (K := K) (bs := xs.map p) (by rw [List.map_map]; exact h)
  rw [List.all_map] at this
  exact this
theorem ev_any' {p : α → Bool} {xs : List α} (h : EvL f te σ H (xs.map fun x => .bool (p x))) : EvD f (tCB (rAny K) (tCons te tNil)) σ H (.bool (xs.any p)) := by
  have := ev_any (K := K) (bs := xs.map p) (by rw [List.map_map]; exact h)
  rw [List.any_map] at this
  exact this
/-- [e for k in range(n)] -/
theorem el_lcR {j : Nat} {n : Nat} {ta : TE} (F : Nat → PyData) (hl : EvD f ta σ H (.int (n : Int))) (hB : ∀ q, ¬ f.B q) (hsz : n ≤ 1000000)
    (hw : ∀ v, wipe ((wipe σ ws).set j (some v)) ws = wipe σ ws)
    (turn : ∀ k, k < n → ∀ H1, Le f H H1 → EvD f te ((wipe σ ws).set j (some (.int (k : Int)))) H1 (F k)) :
    EvL f (tLc (iRng1 (tCons ta tNil)) (gName j) tYes te ws) σ H ((List.range n).map F) := fun H0 e0 Q q => hl H0 e0 _ fun v H1 e1 hv => by
  rw [hv.int_eq]
  refine ⟨(n : Int), rfl, by omega, by omega, fun D hD => ?_⟩
  have hn : ((n : Int)).toNat = n := Int.toNat_natCast n
  refine lc_turns (p := fun _ => true) (walk_range (lo := 0) (n := ((n : Int)).toNat)) (List.range n) (by rw [hn, List.length_range]) hB F (by rw [List.length_range]; exact hsz) hD (Le.refl H1) (fun _ _ => True.intro) (fun i x hx v H2 H3 e12 y => ?_)
    fun vs H2 e12 hp hvs => q D vs H2 (e1.trans e12) (e1.back (hB D) hD) hp (by rw [List.filter_eq_self.mpr (fun _ _ => rfl)] at hvs; exact hvs)
  obtain ⟨rfl, rfl⟩ := y
  have hi : i < n := by
    have := (List.getElem?_eq_some_iff.mp hx).1
    simpa using this
  have ex : x = i := by
    rw [List.getElem?_range hi] at hx
    exact (Option.some.inj hx).symm
  subst ex
  have t := turn x hi H3 ((e0.trans e1).trans e12)
  have ez : V.int ((0 : Int) + (x : Int)) = .int (x : Int) := by rw [Int.zero_add]
  refine ⟨(wipe σ ws).set j (some (.int (x : Int))), fun R hR => ?_, Le.refl _, hw _, et_yes, fun _ => t⟩
  show R ((wipe σ ws).set j (some (V.int ((0 : Int) + (x : Int))))) H3
  rw [ez]
  exact hR H3 (Le.refl _)
end
/-! ### defs -/
/-- a def of the top that keeps its promise, at the name x -/
structure Fn (P : Program) (w : World) (K : PySem.W.Frag) (mg : Str → Option Value) (base : Heap) (k : Nat) (x : Str) (ps : List Str) (sp : Sp) : Prop where
  ex : ∃ f fd, FnOk P w K mg base CX0 k f fd ps sp ∧ mg x = some (.ref f) ∧ PySem.W.keepIn K (.ref f) = true ∧ Binds K fd ps []
theorem pe_fn {X : Cx} {k : Nat} {x : Str} {ps : List Str} {sp : Sp} {p pos : Pos} {e : Expr} {es : List Expr} {t : TA} (F : Fn X.prog X.w X.K X.mg X.base k x ps sp) (hr : Room k X.A) (hg : Gl X x) (ha : PA X (e :: es) t)
    (hdb : (x == ("__debug__" : Str)) = false := by decide) (he : starEach (e :: es) X.env = (false, eval e X.env) :: starEach es X.env := by rfl) (hpl : (backTo pos (starEach es X.env)).any (·.1) = false := by rfl) :
    PE X (.Call (.Name x p) (e :: es) [] pos) (tCall sp [] E0 t) := by
  obtain ⟨f, fd, F1, F2, F3, F4⟩ := F.ex
  exact pe_call F1 hr hg F2 F3 F4 .nil pass0 ha hdb he hpl
end K13
/-! K13Enum: enumerate(a tuple); tuple * 1; sum(a tuple of ints). -/
namespace K13
open PySem PySem.Spec PyProof.Rows L2
/-- enumerate's making over a tuple -/
theorem enum_new_tup (t : Addr) (items : Array Value) :
    Meets (Builtin.«enumerate.__new__» ⟨[.type "enumerate", .ref t], []⟩) (fun _ R s => s.heap.IsTuple t items ∧
      R (.ok (.ret (.ref (s.heap.push { cls := .type "tuple_iterator", data := .fields #[.ref t, .int 0 0] }).objs.size)))
        { s with heap := (s.heap.push { cls := .type "tuple_iterator", data := .fields #[.ref t, .int 0 0] }).push { cls := .type "enumerate", data := .fields #[.none, .bool false, .ref s.heap.objs.size, rawInt 0, .none, .none] } }) :=
  .of_wp fun prog w A R s hs => by
    obtain ⟨hp, g, d, tk, os⟩ := s
    obtain ⟨ht, h⟩ := hs
    have hsub := sub_enumerate
    have go : ∀ {A' : Around} {E : Value → Shared → Prop} {Q : Value → Shared → Prop}, Q (.ref hp.objs.size) ⟨hp.push { cls := .type "tuple_iterator", data := .fields #[.ref t, .int 0 0] }, g, d, tk, os⟩ → wpAny (model prog w) A' (pyIter (.ref t)) Q E ⟨hp, g, d, tk, os⟩ :=
      fun q => (begins_tuple t items).iter prog w _ _ ⟨hp, g, d, tk, os⟩ _ ht q
    wp_walk using go
    refine wpAny_stack_any fun st => wpAny_pure ?_
    split
    · rename_i c _ _ _ _ _
      cases (c == Value.type "enumerate") <;> (wp_walk using go; exact ⟨_, rfl, h⟩)
    · wp_walk using go
      exact ⟨_, rfl, h⟩
theorem call_enum_tup {prog : Program} {w : World} {A : Around} {E : Value → Shared → Prop} {s : Shared} {t : Addr} {items : Array Value} {Q : Value → Shared → Prop} (ht : s.heap.IsTuple t items)
    (h : ∀ h', IsEnum h' (s.heap.objs.size + 1) s.heap.objs.size 0 .none → h'.IsTupleIter s.heap.objs.size t 0 → (∀ b o, s.heap.get? b = some o → h'.get? b = some o) → Q (.ref (s.heap.objs.size + 1)) { s with heap := h' }) :
    wpAny (model prog w) A (call (.type "enumerate") [.ref t]) Q E s := by
  refine callType_new F.called_enumerate (by decide) (F.typeCall_enumerate_1 _) (F.newCall_enumerate_1 _) (fun obj => F.args_object_init_2 obj _) F.entry_enumerate_new (enum_new_tup t items) ⟨ht, ?_⟩
  have hz : (s.heap.push { cls := .type "tuple_iterator", data := .fields #[.ref t, .int 0 0] }).objs.size = s.heap.objs.size + 1 := Heap.size_push ..
  show _ ∧ _
  rw [hz]
  have he : IsEnum ((s.heap.push { cls := .type "tuple_iterator", data := .fields #[.ref t, .int 0 0] }).push { cls := .type "enumerate", data := .fields #[.none, .bool false, .ref s.heap.objs.size, rawInt 0, .none, .none] }) (s.heap.objs.size + 1) s.heap.objs.size 0 .none := by
    have q := Heap.get?_push_size (s.heap.push { cls := .type "tuple_iterator", data := .fields #[.ref t, .int 0 0] }) (o := { cls := .type "enumerate", data := .fields #[.none, .bool false, .ref s.heap.objs.size, rawInt 0, .none, .none] }) rfl
    rw [hz] at q
    exact q
  exact ⟨⟨_, he, rfl⟩, h _ he ⟨_, Heap.get?_push_of_some _ (Heap.get?_push_size _ rfl), rfl, rfl⟩ fun b o x => Heap.get?_push_of_some _ (Heap.get?_push_of_some _ x)⟩
/-- the tuple at a, each item in a new pair with its number -/
def IteT (a : Addr) : It :=
  ⟨fun i H => ∃ xs x, H a = some (.tup xs) ∧ xs[i]? = some x, fun i H v H' => ∃ T x, v = .ref T ∧ H T = none ∧ H' = upd H T (.tup [.int (i : Nat), x]) ∧ ∀ xs, H a = some (.tup xs) → xs[i]? = some x, fun i H => ∃ xs : List V, H a = some (.tup xs) ∧ xs.length ≤ i⟩
theorem turn_enumT {P : Program} {w : World} {K : PySem.W.Frag} {elts : List Expr} {kk : Nat} {tpos : Pos} (a e it : Addr) :
    Turn P w K (.Tuple elts kk tpos) (IteT a) [e, it] e (fun i h => (∃ old, IsEnum h e it ((i : Nat) : Int) old) ∧ h.IsTupleIter it a i ∧ e ≠ it) where
  mem := by simp
  obj := fun i h st b hb => by
    obtain ⟨⟨old, he⟩, ⟨o, ho, hc, hd⟩, _⟩ := st
    rcases List.mem_cons.mp hb with z | hb
    · rw [z]; exact ⟨_, he, fun v q => nomatch q⟩
    · have z : b = it := by simpa using hb
      rw [z]; exact ⟨o, ho, fun v q => by rw [hd] at q; cases q⟩
  keep := fun i h h' st k => let ⟨⟨old, he⟩, hi, hne⟩ := st; ⟨⟨old, k e (by simp) _ he⟩, hi.at fun o q => k it (by simp) o q, hne⟩
  item := by
    intro X hP hw hK hc i pins s σ H E I hf st hg
    subst hP hw hK
    obtain ⟨⟨old, he⟩, hit, hne⟩ := st
    obtain ⟨xs, x, hq, hx⟩ := hg
    obtain ⟨its, rv, p, hz⟩ := I.tuple (SqT.of (K := X.K) hq)
    have hel : e < s.heap.objs.size := Heap.lt_size he
    have hil : it < s.heap.objs.size := by obtain ⟨_, q, _⟩ := hit; exact Heap.lt_size q
    have hea : e ≠ a := fun z => by
      have := (hf e (by simp)).1
      rw [z, hq] at this; cases this
    have hia : a ≠ it := fun z => by
      have := (hf it (by simp)).1
      rw [← z, hq] at this; cases this
    have hlt : i < its.toArray.size := by
      have := (List.getElem?_eq_some_iff.mp hx).1
      rw [List.size_toArray, ← rv.length]
      exact this
    refine wpAny_pyNext_enum_itemD (Draws.tuple (A := X.A.in1) (I.ok.hd hc) it a hia its.toArray) he ⟨hit, p⟩ hlt hne (by simp [hne, hea]) fun u h' tk hu ho hst' hT hsz hk => ?_
    refine ⟨_, rfl, wpAny_letOwnedTupleGo_enum (s := { s with heap := h', toks := tk + 1 }) ho fun h'' he' sb => ?_⟩
    obtain ⟨u', hu', ru⟩ := rv.get hx
    have eu : u = u' := by
      have h1 : its[i]? = some u := by simpa using hu
      rw [hu'] at h1
      exact (Option.some.inj h1).symm
    subst eu
    have hT2 : h''.get? s.heap.objs.size = some { cls := .type "tuple", data := .seq #[.int i tk, u] } := (sb.2 _ (Nat.ne_of_gt hel)).trans hT
    have new : ObjOk X.prog X.w (upd H s.heap.objs.size (.tup [.int (i : Nat), x])) h'' s.heap.objs.size (.tup [.int (i : Nat), x]) :=
      ⟨by show 2 ≤ sizeLine; decide, [.int i tk, u], .cons ⟨_, rfl⟩ (.cons ru .nil), ⟨_, hT2, rfl, _, rfl⟩⟩
    have I1 : Inv X pins σ (upd H s.heap.objs.size (.tup [.int (i : Nat), x])) { s with heap := h'', toks := tk + 1 } :=
      I.turnedNew (ch := [e, it]) (fun b ob hb q => (sb.2 b (fun z => hb (by simp [z]))).trans (hk b ob (fun z => hb (by simp [z])) (fun z => hb (by simp [z])) q)) hf (Nat.le_refl _) new
    refine ⟨.ref s.heap.objs.size, _, I1, rfl, ⟨_, x, rfl, I.hok.fresh (Nat.le_refl _), rfl, fun ys hy => ?_⟩, ⟨⟨u, ?_⟩, hst'.1.at fun o q => (sb.2 it (Ne.symm hne)).trans q, hne⟩, fun b hb => ?_⟩
    · rw [hq] at hy
      cases hy
      exact hx
    · have e1 : ((i + 1 : Nat) : Int) = (i : Int) + 1 := by omega
      rw [e1]
      exact he'
    · have hb' : b < s.heap.objs.size := by
        rcases List.mem_cons.mp hb with z | hb
        · rw [z]; exact hel
        · have z : b = it := by simpa using hb
          rw [z]; exact hil
      rw [upd_ne (Nat.ne_of_lt hb')]
      exact (hf b hb).1
  done := by
    intro X hP hw hK hc i pins s σ H E I hf st hg
    subst hP hw hK
    obtain ⟨⟨old, he⟩, hit, hne⟩ := st
    obtain ⟨xs, hq, hx⟩ := hg
    obtain ⟨its, rv, p, hz⟩ := I.tuple (SqT.of (K := X.K) hq)
    obtain ⟨g0, g1, g2, g3, g4, g5⟩ := hf it (by simp)
    have hia : a ≠ it := fun z => by rw [← z, hq] at g0; cases g0
    have hl := rv.length
    unfold pyNext
    have hT : s.TypeIs (.ref e) "enumerate" := ⟨_, he, rfl⟩
    refine wpAny_bind (wpAny_attempt (wpAny_callSpecial?_slot (name := Str.ofString "__next__") hT F.slot_enumerate_next (wpAny_call_entry F.slot_enumerate_next hT F.entry_enumerate_next ?_ (F.args_enumerate_next_1 _))))
    show wpAny _ _ (field (.ref e) 2 >>= _) _ _ _
    refine wpAny_bind (wpAny_field he rfl (x := .ref it) rfl ?_)
    refine wpAny_bind (wpAny_nextOf_tuple_end (show X.A.in1.handled = none from I.ok.hd hc) hit (show s.heap.IsTuple a its.toArray from p) (by simp; omega) fun h' x eb hx' => ?_)
    obtain ⟨o, ho, hcl⟩ := hx'
    refine wpAny_bind (wpAny_isInstance (T := "StopIteration") (b := true) ⟨o, ho, hcl⟩ isSubtype_stop ?_)
    exact wpAny_pure ⟨rfl, I.turned (t' := s.toks) (fun b o hb q => eb b o hb q) g0 g1 g3 g4 g5⟩
  self := fun A i s Q E st h => let ⟨⟨_, he⟩, _⟩ := st; wpAny_pyIter_enum he h
def iEnumT (ta : TA) : TI := fun σ H R => ta σ H fun vs H1 => ∃ a xs, vs = [.ref a] ∧ H1 a = some (.tup xs) ∧ R (IteT a) H1
theorem pi_enumT {X : Cx} {e : Expr} {ta : TA} {p pos tpos : Pos} {elts : List Expr} {kk : Nat} (hg : Gl X "enumerate") (hm : X.mg "enumerate" = none) (ha : PA X [e] ta) (hs : starEach [e] X.env = [(false, eval e X.env)] := by rfl) :
    PI X (.Tuple elts kk tpos) (.Call (.Name "enumerate" p) [e] [] pos) (iEnumT ta) := by
  refine ⟨fun pins s σ H R I h => ?_⟩
  refine Call_ (ld_blt I hg hm boot_enumerate (PyProof.Rows.callWith_type1 (thn (ha.run pos pins s σ H _ I h) fun us s1 ⟨vs, H1, I1, r1, q1⟩ => ?_) hs rfl))
  obtain ⟨a, xs, ex, hq, q⟩ := q1
  subst ex
  obtain ⟨u, rfl, ru⟩ := vals1 r1
  obtain rfl : u = .ref a := ru
  obtain ⟨its, rv, p', hz⟩ := I1.tuple (SqT.of (K := X.K) hq)
  refine call_enum_tup (show s1.heap.IsTuple a its.toArray from p') fun h' he hit hk => wpAny_pyIter_enum he ?_
  have I2 : Inv X pins σ H1 { s1 with heap := h' } := I1.kept (t' := s1.toks) hk
  refine ⟨s1.heap.objs.size + 1, [s1.heap.objs.size + 1, s1.heap.objs.size], _, _, H1, rfl, I2, turn_enumT a (s1.heap.objs.size + 1) s1.heap.objs.size, ⟨⟨.none, he⟩, hit, Nat.succ_ne_self _⟩, fun b hb => ?_, q⟩
  have hle : s1.heap.objs.size ≤ b := by
    rcases List.mem_cons.mp hb with z | hb
    · rw [z]; exact Nat.le_succ _
    · have z : b = s1.heap.objs.size := by simpa using hb
      rw [z]; exact Nat.le_refl _
  exact I1.fpOk hle (I1.hok.fresh hle)
theorem walk_enumT {a : Addr} {xs : List V} : Walk (IteT a) xs.length (fun H => H a = some (.tup xs)) (YPair (fun i => some (.int (i : Nat))) (fun i => xs[i]?)) := by
  refine ⟨fun i _ hi q => ⟨xs, xs[i], q, by simp [hi]⟩, fun _ q => ⟨xs, q, Nat.le_refl _⟩, fun i H v H' _ q y => ?_⟩
  obtain ⟨T, x, h1, h2, h3, h4⟩ := y
  exact ⟨T, .int (i : Nat), x, h1, h2, h3, rfl, h4 xs q⟩
end K13
/-! K13A: the small tests. -/
namespace K13
open PySem PySem.Spec PyProof.Rows L2 KM
/-- what the top leaves of the built-ins -/
structure Top (mg : Str → Option Value) : Prop where
  isinstance_ : mg "isinstance" = none
  int_ : mg "int" = none
  bool_ : mg "bool" = none
  list_ : mg "list" = none
  tuple_ : mg "tuple" = none
  len_ : mg "len" = none
  str_ : mg "str" = none
  all_ : mg "all" = none
  any_ : mg "any" = none
  sum_ : mg "sum" = none
  min_ : mg "min" = none
  max_ : mg "max" = none
  zip_ : mg "zip" = none
  enumerate_ : mg "enumerate" = none
  range_ : mg "range" = none
  sorted_ : mg "sorted" = none
  set_ : mg "set" = none
  MOST_DEEP : ∃ t, mg "MOST_DEEP" = some (.int 6 t)
  MOST_LATE : ∃ t, mg "MOST_LATE" = some (.int 12 t)
  MOST_FLAGS : ∃ t, mg "MOST_FLAGS" = some (.int 2000 t)
/-- a def as the top has it, at its name -/
structure At (K : PySem.W.Frag) (mg : Str → Option Value) (x : Str) (st : Stmt) (ps : List Str) : Prop where
  ex : ∃ f fd, FunD K x x (defArgs st) (defBody st) (defScope st) [] [] f fd ∧ mg x = some (.ref f) ∧ Binds K fd ps []
section
variable {P : Program} {w : World} {K : PySem.W.Frag} {mg : Str → Option Value} {base : Heap}
/-- the rule for a def of the top -/
theorem At.fn {x : Str} {st : Stmt} {N ps : List Str} {k : Nat} {sp : Sp} (A : At K mg x st ps) (S : FnScope N ps (defScope st)) (len : ∀ vs H Q E, sp vs H Q E → vs.length = ps.length)
    (hbody : ∀ (f : Addr) (cdv : Value) (A : Around) (outer : List Env) (s : Shared) (H : Hp) (vs : List V) (Q : VK) (E : XK), Room k (A.deeper (envOfC x (defScope st) s.heap.objs.size f cdv)) → sp vs H Q E →
      ∃ t, PSs (cxOf CX0 P w K mg base N x (defScope st) f cdv A outer s H E).nox (defBody st) t ∧ t { nx := fun _ H' => Q .non H', rt := Q } (start N vs) H) : Fn P w K mg base (k + 1) x ps sp := by
  obtain ⟨f, fd, F, hm, hb⟩ := A.ex
  exact ⟨f, fd, F.ok S len fun cdv A outer s H vs Q E hr h => by
    obtain ⟨t, h1, h2⟩ := hbody f cdv A outer s H vs Q E hr h
    exact ⟨t, h1.nox, h2⟩, hm, F.kp, hb⟩
end
local macro_rules | `(tactic| walk_at "dt") => `(tactic| first | assumption | exact Dt.int _ | exact Dt.bl _ | exact Dt.str _ | exact Dt.non)
local macro_rules | `(tactic| walk_at "ea") => `(tactic| first | exact ea_nil | (refine ea_cons ?_ ?_; focus (walk_at "ev"); focus (walk_at "ea")))
local macro_rules | `(tactic| walk_at "ev") => `(tactic| with_reducible first
  | exact ev_int | exact ev_bl | exact ev_str | exact ev_non
  | (refine ev_var (by with_unfolding_all rfl) ?_; walk_at "dt")
  | (refine ev_ii ?_ ?_ <;> walk_at "ev")
  | (refine ev_ib ?_ ?_ <;> walk_at "ev")
  | (refine ev_and ?_ ?_ <;> (try intro _) <;> walk_at "ev")
  | (refine ev_or ?_ ?_ <;> (try intro _) <;> walk_at "ev")
  | (refine ev_not ?_; walk_at "ev")
  | (refine ev_chain ?_ ?_ ?_ <;> (try intro _) <;> walk_at "ev")
  | (refine ev_lenT ?_; walk_at "ev")
  | (refine ev_tup ?_ (by decide); walk_at "ea")
  | skip)
/-! ### data of machines -/
def eSide (s : Side) : PyData := .tuple [.bool s.1, .int (s.2 : Int)]
def eRow (r : Side × Side) : PyData := .tuple [eSide r.1, eSide r.2]
def eM (M : Mach) : PyData := .tuple (M.map eRow)
theorem k_NoneType_int : kitB "NoneType" "int" = some false := by decide +kernel
theorem k_NoneType_bool : kitB "NoneType" "bool" = some false := by decide +kernel
theorem k_NoneType_tuple : kitB "NoneType" "tuple" = some false := by decide +kernel
theorem k_NoneType_str : kitB "NoneType" "str" = some false := by decide +kernel
theorem k_NoneType_list : kitB "NoneType" "list" = some false := by decide +kernel
theorem k_bool_int : kitB "bool" "int" = some true := by decide +kernel
theorem k_bool_bool : kitB "bool" "bool" = some true := by decide +kernel
theorem k_bool_tuple : kitB "bool" "tuple" = some false := by decide +kernel
theorem k_bool_str : kitB "bool" "str" = some false := by decide +kernel
theorem k_bool_list : kitB "bool" "list" = some false := by decide +kernel
theorem k_int_int : kitB "int" "int" = some true := by decide +kernel
theorem k_int_bool : kitB "int" "bool" = some false := by decide +kernel
theorem k_int_tuple : kitB "int" "tuple" = some false := by decide +kernel
theorem k_int_str : kitB "int" "str" = some false := by decide +kernel
theorem k_int_list : kitB "int" "list" = some false := by decide +kernel
theorem k_str_int : kitB "str" "int" = some false := by decide +kernel
theorem k_str_bool : kitB "str" "bool" = some false := by decide +kernel
theorem k_str_tuple : kitB "str" "tuple" = some false := by decide +kernel
theorem k_str_str : kitB "str" "str" = some true := by decide +kernel
theorem k_str_list : kitB "str" "list" = some false := by decide +kernel
theorem k_tuple_int : kitB "tuple" "int" = some false := by decide +kernel
theorem k_tuple_bool : kitB "tuple" "bool" = some false := by decide +kernel
theorem k_tuple_tuple : kitB "tuple" "tuple" = some true := by decide +kernel
theorem k_tuple_str : kitB "tuple" "str" = some false := by decide +kernel
theorem k_tuple_list : kitB "tuple" "list" = some false := by decide +kernel
theorem k_list_int : kitB "list" "int" = some false := by decide +kernel
theorem k_list_bool : kitB "list" "bool" = some false := by decide +kernel
theorem k_list_tuple : kitB "list" "tuple" = some false := by decide +kernel
theorem k_list_str : kitB "list" "str" = some false := by decide +kernel
theorem k_list_list : kitB "list" "list" = some true := by decide +kernel
/-! ### promises -/
def isIntD : PyData → Bool
  | .int _ => true
  | _ => false
def isBlD : PyData → Bool
  | .bool _ => true
  | _ => false
def sp1 (f : PyData → PyData) (pre : PyData → Prop) : Sp := fun vs H Q _ => ∃ d, DtA H vs [d] ∧ pre d ∧ RetD H Q (f d)
def sp_is_integer : Sp := fun vs H Q _ => ∃ d, DtA H vs [d] ∧ RetD H Q (.bool (isIntD d))
def sp_is_flag : Sp := fun vs H Q _ => ∃ d, DtA H vs [d] ∧ RetD H Q (.bool (isBlD d))
def sp_is_within : Sp := fun vs H Q _ => ∃ n a b : Int, DtA H vs [.int n, .int a, .int b] ∧ RetD H Q (.bool (decide (a ≤ n) && decide (n ≤ b)))
def sp_is_pair : Sp := fun vs H Q _ => ∃ ds, DtA H vs [.tuple ds] ∧ RetD H Q (.bool (decide ((ds.length : Int) = 2)))
def sp_is_side : Sp := fun vs H Q _ => ∃ (s : Side) (n : Int), DtA H vs [eSide s, .int n] ∧ RetD H Q (.bool (decide ((s.2 : Int) ≤ n - 1)))
def sp_told : Sp := fun vs H Q _ => ∃ M, DtA H vs [eM M] ∧ Ok M ∧ M.length ≤ 1000000 ∧ RetD H Q (.bool true)
def sp_check : Sp := fun vs H Q _ => ∃ M, DtA H vs [eM M] ∧ Ok M ∧ M.length ≤ 1000000 ∧ RetD H Q .none
theorem dta1 {H : Hp} {vs : List V} {d : PyData} (h : DtA H vs [d]) : ∃ v, vs = [v] ∧ Dt H v d := by
  cases h with
  | cons h1 h2 => cases h2; exact ⟨_, rfl, h1⟩
theorem dta2 {H : Hp} {vs : List V} {d e : PyData} (h : DtA H vs [d, e]) : ∃ v w, vs = [v, w] ∧ Dt H v d ∧ Dt H w e := by
  cases h with
  | cons h1 h2 => obtain ⟨w, rfl, h3⟩ := dta1 h2; exact ⟨_, w, rfl, h1, h3⟩
theorem dta3 {H : Hp} {vs : List V} {d e g : PyData} (h : DtA H vs [d, e, g]) : ∃ v w x, vs = [v, w, x] ∧ Dt H v d ∧ Dt H w e ∧ Dt H x g := by
  cases h with
  | cons h1 h2 => obtain ⟨w, x, rfl, h3, h4⟩ := dta2 h2; exact ⟨_, w, x, rfl, h1, h3, h4⟩
theorem Dt.is {H : Hp} {v : V} {d e : PyData} (h : Dt H v d) (q : d = e) : Dt H v e := q ▸ h
section
variable {P : Program} {w : World} {K : PySem.W.Frag} {mg : Str → Option Value} {base : Heap}
theorem ok_is_integer (T : Top mg) (A : At K mg "is_integer" s_is_integer ["thing"]) : Fn P w K mg base 1 "is_integer" ["thing"] sp_is_integer := by
  refine A.fn c_is_integer (fun vs H Q E h => by obtain ⟨d, h, _⟩ := h; exact h.length) fun f cdv A outer s H vs Q E hr h => ?_
  obtain ⟨d, h, q⟩ := h
  obtain ⟨v, rfl, hd⟩ := dta1 h
  refine ⟨_, (pss_one (ps_ret (pe_and (pe_callB (cl_isi K rfl) (by rfl) T.isinstance_ (by decide +kernel) (pa_cons (pv 0) (pa_cons (pe_bltn (v := .ty "int") (by rfl) T.int_ (by decide +kernel) rfl) pa_nil))) (pe_one (pe_not (pe_callB (cl_isi K rfl) (by rfl) T.isinstance_ (by decide +kernel) (pa_cons (pv 0) (pa_cons (pe_bltn (v := .ty "bool") (by rfl) T.bool_ (by decide +kernel) rfl) pa_nil)))))))), ?_⟩
  have h1 : ∃ b, kitB (tyN d) "int" = some b ∧ ∃ c, kitB (tyN d) "bool" = some c ∧ (b && !c) = isIntD d := by
    cases hd with
    | non => exact ⟨_, k_NoneType_int, _, k_NoneType_bool, rfl⟩
    | bl b => exact ⟨_, k_bool_int, _, k_bool_bool, rfl⟩
    | int i => exact ⟨_, k_int_int, _, k_int_bool, rfl⟩
    | str x => exact ⟨_, k_str_int, _, k_str_bool, rfl⟩
    | tup _ _ => exact ⟨_, k_tuple_int, _, k_tuple_bool, rfl⟩
  obtain ⟨b, hb, c, hc, e⟩ := h1
  refine s_ret (f := f0) (ev_and (ev_isi (ev_var rfl hd) hb) fun _ => ev_not (ev_isi (ev_var rfl hd) hc)) fun v H1 e1 hv => q v H1 (le_same e1) (hv.is (by rw [e]))
theorem ok_is_flag (T : Top mg) (A : At K mg "is_flag" s_is_flag ["thing"]) : Fn P w K mg base 1 "is_flag" ["thing"] sp_is_flag := by
  refine A.fn c_is_flag (fun vs H Q E h => by obtain ⟨d, h, _⟩ := h; exact h.length) fun f cdv A outer s H vs Q E hr h => ?_
  obtain ⟨d, h, q⟩ := h
  obtain ⟨v, rfl, hd⟩ := dta1 h
  refine ⟨_, (pss_one (ps_ret (pe_callB (cl_isi K rfl) (by rfl) T.isinstance_ (by decide +kernel) (pa_cons (pv 0) (pa_cons (pe_bltn (v := .ty "bool") (by rfl) T.bool_ (by decide +kernel) rfl) pa_nil))))), ?_⟩
  have h1 : ∃ b, kitB (tyN d) "bool" = some b ∧ b = isBlD d := by
    cases hd with
    | non => exact ⟨_, k_NoneType_bool, rfl⟩
    | bl b => exact ⟨_, k_bool_bool, rfl⟩
    | int i => exact ⟨_, k_int_bool, rfl⟩
    | str x => exact ⟨_, k_str_bool, rfl⟩
    | tup _ _ => exact ⟨_, k_tuple_bool, rfl⟩
  obtain ⟨b, hb, e⟩ := h1
  exact s_ret (f := f0) (ev_isi (ev_var rfl hd) hb) fun v H1 e1 hv => q v H1 (le_same e1) (hv.is (by rw [e]))
theorem ok_is_within (T : Top mg) (A : At K mg "is_within" s_is_within ["thing", "least", "most"]) (f_is_integer : Fn P w K mg base 1 "is_integer" ["thing"] sp_is_integer) :
    Fn P w K mg base 2 "is_within" ["thing", "least", "most"] sp_is_within := by
  refine A.fn c_is_within (fun vs H Q E h => by obtain ⟨n, a, b, h, _⟩ := h; exact h.length) fun f cdv A outer s H vs Q E hr h => ?_
  obtain ⟨n, a, b, h, q⟩ := h
  obtain ⟨v, w, x, rfl, h1, h2, h3⟩ := dta3 h
  refine ⟨_, (pss_one (ps_ret (pe_and (pe_fn f_is_integer (hr.mono (by decide)) rfl (pa_cons (pv 0) pa_nil)) (pe_one (pe_chain op_le op_le (pv 1) (pv 0) (pv 2)))))), ?_⟩
  refine s_ret (f := f0) (ev_and (ev_call (ea_cons (ev_var rfl h1) ea_nil) (fun H1 vs e hv Q r => ⟨_, hv, r⟩) f0_same) fun _ => ev_chain (ev_var rfl h2) (ev_var rfl h1) fun _ => ev_var rfl h3) fun v H1 e1 hv => q v H1 (le_same e1) (hv.is rfl)
theorem ok_is_pair (T : Top mg) (A : At K mg "is_pair" s_is_pair ["thing"]) : Fn P w K mg base 1 "is_pair" ["thing"] sp_is_pair := by
  refine A.fn c_is_pair (fun vs H Q E h => by obtain ⟨d, h, _⟩ := h; exact h.length) fun f cdv A outer s H vs Q E hr h => ?_
  obtain ⟨ds, h, q⟩ := h
  obtain ⟨v, rfl, hd⟩ := dta1 h
  refine ⟨_, (pss_one (ps_ret (pe_and (pe_callB (cl_isi K rfl) (by rfl) T.isinstance_ (by decide +kernel) (pa_cons (pv 0) (pa_cons (pe_bltn (v := .ty "tuple") (by rfl) T.tuple_ (by decide +kernel) rfl) pa_nil))) (pe_one (pe_cmpR op_eq (pe_callB (cl_len K rfl) (by rfl) T.len_ (by decide +kernel) (pa_cons (pv 0) pa_nil)) pe_int (nomark _)))))), ?_⟩
  exact s_ret (f := f0) (ev_and (ev_isi (ev_var rfl hd) k_tuple_tuple) fun _ => ev_eqI (ev_lenT (ev_var rfl hd)) ev_int) fun v H1 e1 hv => q v H1 (le_same e1) (hv.is (by simp))
theorem ok_is_side (T : Top mg) (A : At K mg "is_side" s_is_side ["thing", "many"]) (f_is_pair : Fn P w K mg base 1 "is_pair" ["thing"] sp_is_pair) (f_is_flag : Fn P w K mg base 1 "is_flag" ["thing"] sp_is_flag)
    (f_is_within : Fn P w K mg base 2 "is_within" ["thing", "least", "most"] sp_is_within) : Fn P w K mg base 3 "is_side" ["thing", "many"] sp_is_side := by
  refine A.fn c_is_side (fun vs H Q E h => by obtain ⟨s, n, h, _⟩ := h; exact h.length) fun f cdv A outer s H vs Q E hr h => ?_
  obtain ⟨sd, n, h, q⟩ := h
  obtain ⟨v, w, rfl, h1, h2⟩ := dta2 h
  refine ⟨_, (pss_one (ps_ret (pe_and (pe_fn f_is_pair (hr.mono (by decide)) rfl (pa_cons (pv 0) pa_nil)) (pe_and (pe_fn f_is_flag (hr.mono (by decide)) rfl (pa_cons (pe_ix (ixT K rfl) (pv 0) pe_int (fun _ _ => rfl)) pa_nil)) (pe_one (pe_fn f_is_within (hr.mono (by decide)) rfl (pa_cons (pe_ix (ixT K rfl) (pv 0) pe_int (fun _ _ => rfl)) (pa_cons pe_int (pa_cons (pe_op op_sub (pv 1) pe_int) pa_nil))))))))), ?_⟩
  have h1' : Dt H v (.tuple [.bool sd.1, .int (sd.2 : Int)]) := h1
  refine s_ret (f := f0) (ev_and (ev_call (ea_cons (ev_var rfl h1') ea_nil) (fun H1 vs e hv Q r => ⟨_, hv, r⟩) f0_same) fun _ => ev_and (ev_call (ea_cons (ev_ixT (ev_var rfl h1') ev_int rfl) ea_nil) (fun H1 vs e hv Q r => ⟨_, hv, r⟩) f0_same)
    fun _ => ev_call (ea_cons (ev_ixT (ev_var rfl h1') ev_int rfl) (ea_cons ev_int (ea_cons (ev_ii (ev_var rfl h2) ev_int) ea_nil))) (fun H1 vs e hv Q r => ⟨_, _, _, hv, r⟩) f0_same) fun v H1 e1 hv => q v H1 (le_same e1) (hv.is ?_)
  simp [isBlD]
theorem all_true {α : Type} {xs : List α} {p : α → Bool} (h : ∀ x ∈ xs, p x = true) : (xs.map p).all id = true := by
  rw [List.all_map, List.all_eq_true]
  exact h
theorem ok_is_told_machine (T : Top mg) (A : At K mg "is_told_machine" s_is_told_machine ["thing"]) (f_is_pair : Fn P w K mg base 1 "is_pair" ["thing"] sp_is_pair) (f_is_side : Fn P w K mg base 3 "is_side" ["thing", "many"] sp_is_side) :
    Fn P w K mg base 4 "is_told_machine" ["thing"] sp_told := by
  refine A.fn c_is_told_machine (fun vs H Q E h => by obtain ⟨s, h, _⟩ := h; exact h.length) fun f cdv A outer s H vs Q E hr h => ?_
  obtain ⟨M, h, ok, hz, q⟩ := h
  obtain ⟨v, rfl, h1⟩ := dta1 h
  refine ⟨_, (pss_cons (ps_if (PW.pt (pw_or (pt_not (pt_val (pe_callB (cl_isi K rfl) (by rfl) T.isinstance_ (by decide +kernel) (pa_cons (pv 0) (pa_cons (pe_bltn (v := .ty "tuple") (by rfl) T.tuple_ (by decide +kernel) rfl) pa_nil))))) (pw_or (pt_cmpR op_eq (pe_callB (cl_len K rfl) (by rfl) T.len_ (by decide +kernel) (pa_cons (pv 0) pa_nil)) pe_int (nomark _)) (pw_or1 (pt_not (pt_val (pe_callB (cl_all K rfl rfl) (by rfl) T.all_ (by decide +kernel) (pa_cons (pe_lc (own := [("standing", 1)]) (g := gName 1) (tt := tYes) rfl c_is_told_machine.nd (pi_tup (pv 0)) (blkOk_by (own := [("standing", 1)]) (N := n_is_told_machine) (sc := defScope s_is_told_machine) (by decide +kernel)) (fun _ _ _ _ _ => (pg_name (i := 1) c_is_told_machine.nd rfl (.inl rfl))) (fun _ _ _ _ _ => pts_nil) (fun _ _ _ _ _ => (pe_fn f_is_pair (hr.mono (by decide)) rfl (pa_cons (pv 1) pa_nil)))) pa_nil)))))))) (pss_one (ps_ret pe_bl)) pss_nil)
      (pss_one (ps_ret (pe_callB (cl_all K rfl rfl) (by rfl) T.all_ (by decide +kernel) (pa_cons (pe_lc (own := [("off", 2), ("on", 3)]) (g := gTup _ 2 (gCons (gName 2) (gCons (gName 3) (gNil)))) (tt := tYes) rfl c_is_told_machine.nd (pi_tup (pv 0)) (blkOk_by (own := [("off", 2), ("on", 3)]) (N := n_is_told_machine) (sc := defScope s_is_told_machine) (by decide +kernel)) (fun _ _ _ _ _ => (pg_tup rfl (pgs_cons (pg_name (i := 2) c_is_told_machine.nd rfl (.inl rfl)) (pgs_cons (pg_name (i := 3) c_is_told_machine.nd rfl (.inl rfl)) pgs_nil)))) (fun _ _ _ _ _ => pts_nil) (fun _ _ _ _ _ => (pe_and (pe_fn f_is_side (hr.mono (by decide)) rfl (pa_cons (pv 2) (pa_cons (pe_callB (cl_len K rfl) (by rfl) T.len_ (by decide +kernel) (pa_cons (pv 0) pa_nil)) pa_nil))) (pe_one (pe_fn f_is_side (hr.mono (by decide)) rfl (pa_cons (pv 3) (pa_cons (pe_callB (cl_len K rfl) (by rfl) T.len_ (by decide +kernel) (pa_cons (pv 0) pa_nil)) pa_nil))))))) pa_nil))))), ?_⟩
  have h1' : Dt H v (.tuple (M.map eRow)) := h1
  have t1 : ∀ (p : Side × Side → Bool), (∀ x ∈ M, p x = true) → M.all p = true := fun p h => List.all_eq_true.mpr h
  refine s_if (f := f0) (b := false) (EvT.is (et_or (et_not (et_B (ev_isi (ev_var rfl h1') k_tuple_tuple))) fun _ => et_or (et_test (ev_eqI (ev_lenT (ev_var rfl h1')) ev_int)) fun _ => et_not (et_B (ev_all' (p := fun _ => true) (xs := M)
    (el_mapT1 M eRow _ (ev_var rfl h1') f0_no hz (fun _ => rfl) fun x hx v H1 e hv => ev_call (d := .bool true) (ea_cons (ev_var rfl hv) ea_nil) (fun H1 vs e hv Q r => ⟨[eSide x.1, eSide x.2], hv, r⟩) f0_same)))) ?_) (fun z => by cases z) fun _ H1 e1 => ?_
  · have hp := ok.pos
    have h0 : ¬ ((M.length : Int) = 0) := by omega
    rw [List.length_map, t1 _ fun _ _ => rfl, decide_eq_false h0]
    rfl
  · have h2 : Dt H1 v (.tuple (M.map eRow)) := h1'.to e1.tup
    refine s_ret (f := f0) (ev_all' (p := fun _ => true) (xs := M) (el_mapT2 M (fun r => eSide r.1) (fun r => eSide r.2) _ (ev_var rfl h2) f0_no hz (fun _ _ => rfl) fun x hx a b H3 e hv hw => ?_)) fun u H2 e2 hu => q u H2 (le_same (e1.trans e2)) (hu.is (by rw [t1 _ fun _ _ => rfl]))
    have h3 : Dt H3 v (.tuple (M.map eRow)) := h2.to e.tup
    obtain ⟨i, hi⟩ := List.mem_iff_getElem?.mp hx
    have hil := (List.getElem?_eq_some_iff.mp hi).1
    have l1 := ok.lt i false hil
    have l2 := ok.lt i true hil
    unfold go at l1 l2
    rw [sd_some hi] at l1 l2
    simp only [if_true, Bool.false_eq_true, if_false] at l1 l2
    refine (ev_and (ev_call (d := .bool true) (ea_cons (ev_var rfl hv) (ea_cons (ev_lenT (ev_var rfl h3)) ea_nil)) (fun H1 vs e hv Q r => ⟨x.1, _, hv, ?_⟩) f0_same) fun _ => ev_call (d := .bool true) (ea_cons (ev_var rfl hw) (ea_cons (ev_lenT (ev_var rfl h3)) ea_nil)) (fun H1 vs e hv Q r => ⟨x.2, _, hv, ?_⟩) f0_same).is rfl
    · rw [List.length_map, decide_eq_true (show (x.1.2 : Int) ≤ (M.length : Int) - 1 by omega)]
      exact r
    · rw [List.length_map, decide_eq_true (show (x.2.2 : Int) ≤ (M.length : Int) - 1 by omega)]
      exact r
theorem ok_is_machine (A : At K mg "is_machine" s_is_machine ["thing"]) (f_is_told_machine : Fn P w K mg base 4 "is_told_machine" ["thing"] sp_told) : Fn P w K mg base 5 "is_machine" ["thing"] sp_told := by
  refine A.fn c_is_machine (fun vs H Q E h => by obtain ⟨s, h, _⟩ := h; exact h.length) fun f cdv A outer s H vs Q E hr h => ?_
  obtain ⟨M, h, ok, hz, q⟩ := h
  obtain ⟨v, rfl, h1⟩ := dta1 h
  refine ⟨_, (pss_one (ps_ret (pe_fn f_is_told_machine (hr.mono (by decide)) rfl (pa_cons (pv 0) pa_nil)))), ?_⟩
  exact s_ret (f := f0) (ev_call (d := .bool true) (ea_cons (ev_var rfl h1) ea_nil) (fun H1 vs e hv Q r => ⟨M, hv, ok, hz, r⟩) f0_same) fun u H2 e2 hu => q u H2 (le_same e2) hu
theorem ok_check_machine (A : At K mg "check_machine" s_check_machine ["thing"]) (f_is_told_machine : Fn P w K mg base 4 "is_told_machine" ["thing"] sp_told) : Fn P w K mg base 5 "check_machine" ["thing"] sp_check := by
  refine A.fn c_check_machine (fun vs H Q E h => by obtain ⟨s, h, _⟩ := h; exact h.length) fun f cdv A outer s H vs Q E hr h => ?_
  obtain ⟨M, h, ok, hz, q⟩ := h
  obtain ⟨v, rfl, h1⟩ := dta1 h
  refine ⟨_, (pss_one (ps_if (pt_not (pt_val (pe_fn f_is_told_machine (hr.mono (by decide)) rfl (pa_cons (pv 0) pa_nil)))) pss_never pss_nil)), ?_⟩
  exact s_if (f := f0) (b := false) ((et_not (et_B (ev_call (d := .bool true) (ea_cons (ev_var rfl h1) ea_nil) (fun H1 vs e hv Q r => ⟨M, hv, ok, hz, r⟩) f0_same))).is rfl) (fun z => by cases z) fun _ H1 e1 => q _ H1 (le_same e1) .non
end
end K13
/-! K13B: numbered, kinds_of, least_of, least. -/
namespace KM
/-- a numbering as it is made: dk the kinds met so far -/
structure NI {α : Type} (ks : List α) (i : Nat) (dk : List α) (ns : List Nat) : Prop where
  len : ns.length = i
  at_ : ∀ (t q : Nat), ns[t]? = some q → dk[q]? = ks[t]? ∧ q < dk.length
  nd : dk.Nodup
  all : ∀ q, q < dk.length → q ∈ ns
theorem NI.zero {α : Type} (ks : List α) : NI ks 0 [] [] := ⟨rfl, fun t q h => by simp at h, List.nodup_nil, fun q h => absurd h (Nat.not_lt_zero _)⟩
theorem snoc_get {α : Type} {l : List α} {x y : α} {t : Nat} (h : (l ++ [x])[t]? = some y) : (t < l.length ∧ l[t]? = some y) ∨ (t = l.length ∧ y = x) := by
  by_cases q : t < l.length
  · rw [List.getElem?_append_left q] at h
    exact .inl ⟨q, h⟩
  · have hb := (List.getElem?_eq_some_iff.mp h).1
    rw [List.length_append, List.length_singleton] at hb
    have e : t = l.length := by omega
    subst e
    rw [List.getElem?_append_right (Nat.le_refl _)] at h
    simp only [Nat.sub_self, List.getElem?_cons_zero, Option.some.injEq] at h
    exact .inr ⟨rfl, h.symm⟩
section
variable {α : Type} {ks dk : List α} {i : Nat} {ns : List Nat} {k : α} {q : Nat}
theorem NI.old (h : NI ks i dk ns) (hk : ks[i]? = some k) (hq : dk[q]? = some k) : NI ks (i + 1) dk (ns ++ [q]) := by
  refine ⟨by rw [List.length_append, h.len]; rfl, fun t r e => ?_, h.nd, fun r hr => List.mem_append_left _ (h.all r hr)⟩
  rcases snoc_get e with ⟨_, e⟩ | ⟨e1, e2⟩
  · exact h.at_ t r e
  · rw [e2, e1, h.len, hk, hq]
    exact ⟨rfl, (List.getElem?_eq_some_iff.mp hq).1⟩
theorem NI.new (h : NI ks i dk ns) (hk : ks[i]? = some k) (hn : k ∉ dk) : NI ks (i + 1) (dk ++ [k]) (ns ++ [dk.length]) := by
  refine ⟨by rw [List.length_append, h.len]; rfl, fun t r e => ?_, ?_, fun r hr => ?_⟩
  · rcases snoc_get e with ⟨_, e⟩ | ⟨e1, e2⟩
    · obtain ⟨a, b⟩ := h.at_ t r e
      rw [List.getElem?_append_left b, List.length_append]
      exact ⟨a, by omega⟩
    · rw [e2, e1, h.len, hk, List.getElem?_append_right (Nat.le_refl _), List.length_append]
      simp
  · rw [List.nodup_append]
    exact ⟨h.nd, by simp, fun a ha b hb e => hn (by simp at hb; rw [← hb, ← e]; exact ha)⟩
  · rw [List.length_append, List.length_singleton] at hr
    by_cases e : r < dk.length
    · exact List.mem_append_left _ (h.all r e)
    · exact List.mem_append_right _ (by simp; omega)
theorem getD_of {l : List Nat} {t q : Nat} (h : l[t]? = some q) : l.getD t 0 = q := by simp [h]
theorem NI.num (h : NI ks ks.length dk ns) : Num ks ns dk.length := by
  have gt : ∀ t, t < ks.length → ∃ q, ns[t]? = some q ∧ ns.getD t 0 = q ∧ dk[q]? = ks[t]? ∧ q < dk.length := fun t ht => by
    have e : ns[t]? = some (ns[t]'(by rw [h.len]; exact ht)) := by simp [h.len, ht]
    obtain ⟨a, b⟩ := h.at_ _ _ e
    exact ⟨_, e, getD_of e, a, b⟩
  refine ⟨h.len, fun i j hi hj => ?_, fun v hv => ?_, h.all⟩
  · obtain ⟨q, e1, g1, a1, b1⟩ := gt i hi
    obtain ⟨r, e2, g2, a2, b2⟩ := gt j hj
    rw [g1, g2, ← a1, ← a2]
    constructor
    · intro e; rw [e]
    · intro e
      have e3 : dk[q]? = some dk[q] := by simp [b1]
      rw [e3] at e
      exact ix_of_nodup h.nd e3 e.symm
  · obtain ⟨t, ht⟩ := List.mem_iff_getElem?.mp hv
    exact (h.at_ t v ht).2
theorem Num.of_map {α β : Type} {f : α → β} (hf : ∀ x y, f x = f y → x = y) {s : List α} {r : List Nat} {c : Nat} (h : Num (s.map f) r c) : Num s r c := by
  refine ⟨by rw [h.len, List.length_map], fun i j hi hj => ?_, h.lt, h.all⟩
  rw [h.eq i j (by rw [List.length_map]; exact hi) (by rw [List.length_map]; exact hj), List.getElem?_map, List.getElem?_map]
  constructor
  · intro e
    have e1 : s[i]? = some s[i] := by simp [hi]
    have e2 : s[j]? = some s[j] := by simp [hj]
    rw [e1, e2] at e ⊢
    rw [hf _ _ (Option.some.inj e)]
  · intro e
    rw [e]
end
end KM
namespace K13
open PySem PySem.Spec PyProof.Rows L2 KM
local macro_rules | `(tactic| walk_at "dt") => `(tactic| first | assumption | exact Dt.int _ | exact Dt.bl _ | exact Dt.str _ | exact Dt.non)
local macro_rules | `(tactic| walk_at "ea") => `(tactic| first | exact ea_nil | (refine ea_cons ?_ ?_; focus (walk_at "ev"); focus (walk_at "ea")))
local macro_rules | `(tactic| walk_at "ev") => `(tactic| with_reducible first
  | exact ev_int | exact ev_bl | exact ev_str | exact ev_non
  | (refine ev_var (by with_unfolding_all rfl) ?_; walk_at "dt")
  | (refine ev_ii ?_ ?_ <;> walk_at "ev")
  | (refine ev_ib ?_ ?_ <;> walk_at "ev")
  | (refine ev_and ?_ ?_ <;> (try intro _) <;> walk_at "ev")
  | (refine ev_or ?_ ?_ <;> (try intro _) <;> walk_at "ev")
  | (refine ev_not ?_; walk_at "ev")
  | (refine ev_chain ?_ ?_ ?_ <;> (try intro _) <;> walk_at "ev")
  | (refine ev_lenT ?_; walk_at "ev")
  | (refine ev_tup ?_ (by decide); walk_at "ea")
  | skip)
/-! ### dicts: what is found -/
theorem valN_some {l : NL} {k : NestedKey} {v : V} (h : valN l k = some v) : ∃ (q : Nat) (a : Addr), l[q]? = some (k, a, v) := by
  unfold valN at h
  obtain ⟨p, hp, rfl⟩ := Option.map_eq_some_iff.mp h
  have h1 := List.find?_some hp
  have h2 : p.1 = k := of_decide_eq_true h1
  obtain ⟨q, hq⟩ := List.mem_iff_getElem?.mp (List.mem_of_find?_eq_some hp)
  exact ⟨q, p.2.1, by rw [hq, ← h2]⟩
theorem valN_none {l : NL} {k : NestedKey} (h : valN l k = none) : k ∉ l.map (·.1) := by
  unfold valN at h
  rw [Option.map_eq_none_iff, List.find?_eq_none] at h
  intro hm
  obtain ⟨p, hp, e⟩ := List.mem_map.mp hm
  exact h p hp (decide_eq_true e)
theorem valN_of {l : NL} {k : NestedKey} {q : Nat} {a : Addr} {v : V} (hn : (l.map (·.1)).Nodup) (h : l[q]? = some (k, a, v)) : valN l k = some v := by
  cases e : valN l k with
  | none => exact absurd (List.mem_map.mpr ⟨_, List.mem_of_getElem? h, rfl⟩) (valN_none e)
  | some u =>
    obtain ⟨r, b, hr⟩ := valN_some e
    have h1 : (l.map (·.1))[q]? = some k := by rw [List.getElem?_map, h]; rfl
    have h2 : (l.map (·.1))[r]? = some k := by rw [List.getElem?_map, hr]; rfl
    have e2 := ix_of_nodup hn h1 h2
    subst e2
    rw [h] at hr
    have := Option.some.inj hr
    simp only [Prod.mk.injEq] at this
    rw [this.2.2]
abbrev vN (ns : List Nat) : List V := ns.map fun (n : Nat) => V.int (n : Int)
theorem vN_snoc (ns : List Nat) (r : Nat) : vN (ns ++ [r]) = vN ns ++ [V.int (r : Int)] := by unfold vN; rw [List.map_append]; rfl
theorem dta_vN {H : Hp} (ns : List Nat) : DtA H (vN ns) (ns.map fun (n : Nat) => PyData.int (n : Int)) := by
  induction ns with
  | nil => exact .nil
  | cons n ns ih => exact .cons (.int _) ih
/-- signs: tuples, of small depth -/
def sp_numbered : Sp := fun vs H Q _ => ∃ (l : Addr) (us : List V) (ds : List PyData), vs = [.ref l] ∧ H l = some (.lst us) ∧ DtA H us ds ∧ ds.length ≤ 1000000 ∧ (∀ d ∈ ds, (∃ es, d = .tuple es) ∧ (keyOf d).depth ≤ 8) ∧
  ∀ H' p ns c, Same H H' → H p = none → H' p = some (.lst (vN ns)) → Num (ds.map keyOf) ns c → Q (.ref p) H'
section
variable {P : Program} {w : World} {K : PySem.W.Frag} {mg : Str → Option Value} {base : Heap}
theorem ok_numbered (T : Top mg) (A : At K mg "numbered" s_numbered ["signs"]) : Fn P w K mg base 1 "numbered" ["signs"] sp_numbered := by
  refine A.fn c_numbered (fun vs H Q E h => by obtain ⟨l, us, ds, rfl, _⟩ := h; rfl) fun f cdv A outer s H vs Q E hr h => ?_
  obtain ⟨l, us, ds, rfl, hl, hd, hz, hk, q⟩ := h
  refine ⟨_, (pss_cons (ps_set (i := 1) c_numbered.nd rfl (.inr rfl) (peNewN P w rfl rfl))
      (pss_one (ps_ret (pe_lc (own := [("sign", 2)]) (g := gName 2) (tt := tYes) rfl c_numbered.nd (pi_list (pv 0)) (blkOk_by (own := [("sign", 2)]) (N := n_numbered) (sc := defScope s_numbered) (by decide +kernel)) (fun _ _ _ _ _ => (pg_name (i := 2) c_numbered.nd rfl (.inl rfl))) (fun _ _ _ _ _ => pts_nil) (fun _ _ _ _ _ => (peSetdN P w rfl rfl hr.units (pv 1) (pv 2) (pe_callB (clLenN P w rfl rfl) (by rfl) T.len_ (by decide +kernel) (pa_cons (pv 1) pa_nil)) ⟨rfl, rfl, rfl, rfl⟩)))))), ?_⟩
  refine fun d nd => ?_
  have s1 : Same H (upd H d (NDO P w d [])) := same_new nd
  refine ⟨.ref l, rfl, l, rfl, ⟨us, SqL.of (s1 _ _ hl)⟩, fun D nD => ?_⟩
  have nD0 : H D = none := by
    cases e : H D with
    | none => rfl
    | some o => rw [s1 _ _ e] at nD; cases nD
  have neD : D ≠ d := fun e => by rw [e, upd_same] at nD; cases nD
  refine lc_list (xs := us) (fun i H2 => Same H H2 ∧ ∃ (ll : NL) (ns : List Nat), ND P w H2 d ll ∧ (∀ (r : Nat) k a v, ll[r]? = some (k, a, v) → v = .int (r : Int)) ∧ H2 D = some (.lst (vN ns)) ∧ NI (ds.map keyOf) i (ll.map (·.1)) ns)
    ⟨s1.trans (same_new nD), [], [], ⟨by rw [upd_ne (Ne.symm neD)]; exact upd_same, fun _ h => nomatch h⟩, fun r k a v h => by simp at h, upd_same, NI.zero _⟩
    (fun i H2 _ h => SqL.of (h.1 _ _ hl)) (fun i x H2 hx h => ?_) fun H2 h => ?_
  · obtain ⟨e2, ll, ns, nd2, hv, hD, ni⟩ := h
    obtain ⟨dx, hdx, dtx⟩ := hd.get' hx
    obtain ⟨⟨es, rfl⟩, dep⟩ := hk dx (List.mem_of_getElem? hdx)
    have dtx2 := dtx.to (same_tup e2)
    obtain ⟨a, xs, rfl, _, _⟩ := id dtx2.tup_inv
    have nk : NK H2 (keyOf (.tuple es)) a := ⟨_, dtx2, rfl, dep⟩
    have hki : (ds.map keyOf)[i]? = some (keyOf (.tuple es)) := by rw [List.getElem?_map, hdx]; rfl
    have lll : ll.length ≤ ds.length := by
      have h1 : (ll.map (·.1)).length ≤ ns.length := by
        have := pg1 (List.range (ll.map (·.1)).length) ns List.nodup_range fun v hv => ni.all v (List.mem_range.mp hv)
        rw [List.length_range] at this
        exact this
      have h2 := (List.getElem?_eq_some_iff.mp hdx).1
      have h3 := ni.len
      rw [List.length_map] at h1
      omega
    have nsl : ns.length < sizeLine := by
      have h2 := (List.getElem?_eq_some_iff.mp hdx).1
      rw [ni.len, sizeLine_eq]; omega
    refine ⟨rfl, ?_⟩
    refine ⟨.ref d, rfl, d, rfl, ⟨ll, nd2⟩, .ref a, rfl, .ref d, rfl, d, ll, rfl, nd2, ?_⟩
    refine ⟨ll, a, keyOf (.tuple es), nd2, rfl, nk, by rw [sizeLine_eq]; omega, fun v ev => ?_, fun ev => ?_⟩
    · obtain ⟨r, b, hr⟩ := valN_some ev
      have ev2 := hv r _ _ _ hr
      subst ev2
      refine ⟨vN ns, hD, by rw [List.length_map]; exact nsl, same_mut e2 nD0, ll, ns ++ [r], nd2.to (TLe.set hD fun xs z => by cases z) (upd_ne (Ne.symm neD)), hv, ?_, ni.old hki (by rw [List.getElem?_map, hr]; rfl)⟩
      rw [upd_same, vN_snoc]
    · have hn := valN_none ev
      have hD3 : (upd H2 d (NDO P w d (ll ++ [(keyOf (.tuple es), a, .int ((ll.length : Nat) : Int))]))) D = some (.lst (vN ns)) := by rw [upd_ne neD]; exact hD
      refine ⟨vN ns, hD3, by rw [List.length_map]; exact nsl, same_mut (same_mut e2 nd) nD0, ll ++ [(keyOf (.tuple es), a, .int ((ll.length : Nat) : Int))], ns ++ [ll.length],
        (nd2.snoc nk).to (TLe.set hD3 fun xs z => by cases z) (upd_ne (Ne.symm neD)), fun r k b v h => ?_, ?_, ?_⟩
      · rcases snoc_get h with ⟨_, h⟩ | ⟨h1, h2⟩
        · exact hv r k b v h
        · rw [h1]
          exact (congrArg (fun p : NestedKey × Addr × V => p.2.2) h2)
      · rw [upd_same, vN_snoc]
      · have := ni.new hki hn
        rw [List.length_map] at this
        rw [List.map_append]
        exact this
  · obtain ⟨e2, ll, ns, nd2, hv, hD, ni⟩ := h
    have hl2 : us.length = (ds.map keyOf).length := by rw [hd.length, List.length_map]
    rw [hl2] at ni
    exact q H2 D ns _ e2 nD0 hD ni.num
/-- max(a list of numbers that are all below c, c - 1 among them) -/
theorem ev_maxN {f : Fx} {σ : L2.St} {H : Hp} {ta : TE} {p : Addr} {ns : List Nat} {c : Nat} (ha : EvV f ta σ H (.ref p)) (hp : H p = some (.lst (vN ns))) (hB : ¬ f.B p) (h1 : ∀ v ∈ ns, v < c) (h2 : ∀ v, v < c → v ∈ ns) (hc : 0 < c) :
    EvD f (tCB (rMax K) (tCons ta tNil)) σ H (.int ((c : Int) - 1)) := fun H1 e1 Q q => ha H1 e1 _ fun H2 e2 => by
  have hm : (c - 1) ∈ ns := h2 _ (by omega)
  refine ⟨p, ns.map fun (n : Nat) => (n : Int), rfl, by rw [List.map_map]; exact SqL.of ((e1.trans e2).keep _ _ hB hp), by rw [List.length_map]; exact List.length_pos_of_mem hm, fun m hm1 hm2 => ?_⟩
  obtain ⟨n, hn, rfl⟩ := List.mem_map.mp hm1
  have l1 := h1 n hn
  have l2 := hm2 _ (List.mem_map.mpr ⟨_, hm, rfl⟩)
  have e : (n : Int) = (c : Int) - 1 := by omega
  rw [e]
  exact q _ H2 e2 (.int _)
def sp_kinds_of : Sp := fun vs H Q _ => ∃ M, DtA H vs [eM M] ∧ Ok M ∧ M.length ≤ 1000000 ∧ ∀ H' p ns, Same H H' → H p = none → H' p = some (.lst (vN ns)) → Kin M ns → Q (.ref p) H'
def e2B (x : Bool × Bool) : PyData := .tuple [.bool x.1, .bool x.2]
def e3N (x : Nat × Nat × Nat) : PyData := .tuple [.int (x.1 : Int), .int (x.2.1 : Int), .int (x.2.2 : Int)]
theorem k2_inj (x y : Bool × Bool) (h : keyOf (e2B x) = keyOf (e2B y)) : x = y := by
  obtain ⟨a, b⟩ := x
  obtain ⟨c, d⟩ := y
  cases a <;> cases b <;> cases c <;> cases d <;> simp [e2B, keyOf, keysOf] at h ⊢
theorem k3_inj (x y : Nat × Nat × Nat) (h : keyOf (e3N x) = keyOf (e3N y)) : x = y := by
  obtain ⟨a, b, c⟩ := x
  obtain ⟨d, e, g⟩ := y
  simp only [e3N, keyOf, keysOf, NestedKey.tup.injEq, List.cons.injEq, NestedKey.num.injEq, and_true] at h
  simp only [Prod.mk.injEq]
  omega
theorem kd_depth2 (x : Bool × Bool) : (keyOf (e2B x)).depth ≤ 8 := by simp [e2B, keyOf, keysOf, NestedKey.depth, NestedKey.depthAll]
theorem kd_depth3 (x : Nat × Nat × Nat) : (keyOf (e3N x)).depth ≤ 8 := by simp [e3N, keyOf, keysOf, NestedKey.depth, NestedKey.depthAll]
/-- the row at i of a machine, as it stands in the heap -/
theorem row_at {H : Hp} {v : V} {M : Mach} (h : Dt H v (eM M)) {a : Addr} {xs : List V} (ea : v = .ref a) (hx : H a = some (.tup xs)) {i : Nat} (hi : i < M.length) : ∃ u, xs[i]? = some u ∧ Dt H u (.tuple [eSide (ot M i false, go M i false), eSide (ot M i true, go M i true)]) := by
  obtain ⟨b, ys, e1, e2, e3⟩ := (show Dt H v (.tuple (M.map eRow)) from h).tup_inv
  rw [ea] at e1
  cases e1
  rw [hx] at e2
  cases e2
  have hr : (M.map eRow)[i]? = some (.tuple [eSide (ot M i false, go M i false), eSide (ot M i true, go M i true)]) := by rw [List.getElem?_map, row_eq hi]; rfl
  exact e3.get hr
theorem ok_kinds_of (T : Top mg) (A : At K mg "kinds_of" s_kinds_of ["told"]) (f_numbered : Fn P w K mg base 1 "numbered" ["signs"] sp_numbered) : Fn P w K mg base 2 "kinds_of" ["told"] sp_kinds_of := by
  refine A.fn c_kinds_of (fun vs H Q E h => by obtain ⟨M, h, _⟩ := h; exact h.length) fun f cdv A outer s H vs Q E hr h => ?_
  obtain ⟨M, h, ok, hz, q⟩ := h
  obtain ⟨v, rfl, h1⟩ := dta1 h
  refine ⟨_, (pss_cons (ps_set (i := 1) c_kinds_of.nd rfl (.inr rfl) (pe_fn f_numbered (hr.mono (by decide)) rfl (pa_cons (pe_lc (own := [("off", 3), ("on", 4)]) (g := gTup _ 2 (gCons (gName 3) (gCons (gName 4) (gNil)))) (tt := tYes) rfl c_kinds_of.nd (pi_tup (pv 0)) (blkOk_by (own := [("off", 3), ("on", 4)]) (N := n_kinds_of) (sc := defScope s_kinds_of) (by decide +kernel)) (fun _ _ _ _ _ => (pg_tup rfl (pgs_cons (pg_name (i := 3) c_kinds_of.nd rfl (.inl rfl)) (pgs_cons (pg_name (i := 4) c_kinds_of.nd rfl (.inl rfl)) pgs_nil)))) (fun _ _ _ _ _ => pts_nil) (fun _ _ _ _ _ => (pe_tup (pa_cons (pe_ix (ixT K rfl) (pv 3) pe_int (fun _ _ => rfl)) (pa_cons (pe_ix (ixT K rfl) (pv 4) pe_int (fun _ _ => rfl)) pa_nil))))) pa_nil)))
      (pss_cons (ps_set (i := 2) c_kinds_of.nd rfl (.inl rfl) pe_int)
      (pss_cons (ps_while PassesOwn.never (pt_cmpR op_lt (pv 2) (pe_op op_add (pe_callB (cl_max K rfl rfl) (by rfl) T.max_ (by decide +kernel) (pa_cons (pv 1) pa_nil)) pe_int) (nomark _)) (pss_cons (ps_set (i := 2) c_kinds_of.nd rfl (.inl rfl) (pe_op op_add (pe_callB (cl_max K rfl rfl) (by rfl) T.max_ (by decide +kernel) (pa_cons (pv 1) pa_nil)) pe_int))
      (pss_one (ps_set (i := 1) c_kinds_of.nd rfl (.inr rfl) (pe_fn f_numbered (hr.mono (by decide)) rfl (pa_cons (pe_lc (own := [("at", 5), ("off", 3), ("on", 4)]) (g := gTup _ 2 (gCons (gName 5) (gCons (gTup _ 2 (gCons (gName 3) (gCons (gName 4) (gNil)))) (gNil)))) (tt := tYes) rfl c_kinds_of.nd (pi_enumT (by rfl) T.enumerate_ (pa_cons (pv 0) pa_nil)) (blkOk_by (own := [("at", 5), ("off", 3), ("on", 4)]) (N := n_kinds_of) (sc := defScope s_kinds_of) (by decide +kernel)) (fun _ _ _ _ _ => (pg_tup rfl (pgs_cons (pg_name (i := 5) c_kinds_of.nd rfl (.inl rfl)) (pgs_cons (pg_tup rfl (pgs_cons (pg_name (i := 3) c_kinds_of.nd rfl (.inl rfl)) (pgs_cons (pg_name (i := 4) c_kinds_of.nd rfl (.inl rfl)) pgs_nil))) pgs_nil)))) (fun _ _ _ _ _ => pts_nil) (fun _ _ _ _ _ => (pe_tup (pa_cons (pe_ix (ixL K rfl) (pv 1) (pv 5) (fun _ _ => rfl)) (pa_cons (pe_ix (ixL K rfl) (pv 1) (pe_ix (ixT K rfl) (pv 3) pe_int (fun _ _ => rfl)) (fun _ _ => rfl)) (pa_cons (pe_ix (ixL K rfl) (pv 1) (pe_ix (ixT K rfl) (pv 4) pe_int (fun _ _ => rfl)) (fun _ _ => rfl)) pa_nil)))))) pa_nil))))))
      (pss_one (ps_ret (pv 1)))))), ?_⟩
  have h1' : Dt H v (.tuple (M.map fun r => .tuple [eSide r.1, eSide r.2])) := h1
  have L1 := el_mapT2 (f := f0) (σ := start n_kinds_of [v]) (K := K) (ws := [3, 4]) (j := 3) (k := 4) (tl := tVar 0) M (fun r => eSide r.1) (fun r => eSide r.2) (fun r => e2B (r.1.1, r.2.1)) (ev_var rfl h1') f0_no hz (fun _ _ => rfl)
    (te := tTup (tCons (tOp (rIxT K) (tVar 3) (tC (.int 0))) (tCons (tOp (rIxT K) (tVar 4) (tC (.int 0))) tNil))) fun x hx a b H3 e ha hb => ev_tup (ea_cons (ev_ixT (ev_var rfl ha) ev_int rfl) (ea_cons (ev_ixT (ev_var rfl hb) ev_int rfl) ea_nil))
  refine r_seq (r_asg (r_call1 (L1 H (Le.refl H) _ fun p us H1 e1 hp hp1 hv => ?_)))
  refine ⟨p, us, _, rfl, hp1, hv, by rw [List.length_map]; exact hz, fun d hd => ?_, fun H2 r ns c e2 hr2 hns hnum => ?_⟩
  · obtain ⟨x, _, rfl⟩ := List.mem_map.mp hd
    exact ⟨⟨_, rfl⟩, kd_depth2 _⟩
  have ki : KInv M ns c := by
    refine KInv.first (Num.of_map (f := fun x => keyOf (e2B x)) k2_inj ?_)
    have : (M.map fun r => e2B (r.1.1, r.2.1)).map keyOf = (outs M).map fun x => keyOf (e2B x) := by
      unfold outs
      rw [List.map_map, List.map_map]
      rfl
    rw [← this]
    exact hnum
  have s02 : Same H H2 := (le_same e1).trans e2
  have hr0 : H r = none := (le_same e1).free hr2
  refine ⟨fun m σ H' => ∃ (ns : List Nat) (c many : Nat) (p : Addr), σ = [some v, some (.ref p), some (.int (many : Int)), none, none, none] ∧ Same H H' ∧ H p = none ∧ H' p = some (.lst (vN ns)) ∧ KInv M ns c ∧
    (many = 0 ∨ ∃ ks0, KInv M ks0 many ∧ Num (trips M ks0) ns c) ∧ m = M.length + 1 - many, ⟨_, ns, c, 0, r, rfl, s02, hr0, hns, ki, .inl rfl, rfl⟩, ?_⟩
  clear L1 hv hp1 hp hnum ki s02 hr0 hns hr2 e2 e1
  rintro m σ H4 ⟨ns, c, many, p, rfl, s4, hp0, hp4, ki, hb, rfl⟩
  have cp := ki.pos ok.pos
  refine et_test (f := f0) (ev_ib (ev_var rfl (.int (many : Int))) (ev_ii (ev_maxN (evv_var rfl) hp4 (f0_no _) ki.lt ki.all cp) ev_int)) H4 (Le.refl _) _ fun H5 e5 => ?_
  have s5 : Same H H5 := s4.trans (le_same e5)
  have hp5 : H5 p = some (.lst (vN ns)) := le_same e5 _ _ hp4
  by_cases hlt : many < c
  · rw [decide_eq_true (show (many : Int) < (c : Int) - 1 + 1 by omega)]
    refine iteT ?_
    refine ⟨_, fun _ _ h => h, ?_⟩
    refine s_asg (f := f0) (ev_ii (ev_maxN (evv_var rfl) hp5 (f0_no _) ki.lt ki.all cp) ev_int) fun u H6 e6 hu => ?_
    have eu : u = .int (c : Int) := by rw [hu.int_eq]; congr 1; omega
    subst eu
    have s6 : Same H H6 := s5.trans (le_same e6)
    have hp6 : H6 p = some (.lst (vN ns)) := le_same e6 _ _ hp5
    have d6 : Dt H6 v (eM M) := h1.to (same_tup s6)
    obtain ⟨a, xs, ea, hx, hxs⟩ := (show Dt H6 v (.tuple (M.map eRow)) from d6).tup_inv
    subst ea
    have lx : xs.length = M.length := by rw [hxs.length, List.length_map]
    refine ⟨.ref a, rfl, a, xs, rfl, hx, fun D nD => ?_⟩
    refine lc_turns (f := f0) (σ := [some (.ref a), some (.ref p), some (.int (c : Int)), none, none, none]) (tt := tYes) (p := fun _ => true) (walk_enumT (a := a) (xs := xs)) (trips M ns) (by rw [lx]; simp [trips]) f0_no (fun t => e3N t) (by simpa [trips] using hz) nD (Le.refl H6) (fun H7 e7 => e7.tup _ _ hx) (fun i t ht u H7 H8 e7 y => ?_)
      fun us H7 e7 hD7 hus => ?_
    · obtain ⟨T8, x, z, rfl, nT, rfl, hx1, hx2⟩ := y
      have il : i < M.length := by
        have := (List.getElem?_eq_some_iff.mp ht).1
        simpa [trips] using this
      rw [trips_get il] at ht
      obtain rfl : _ = t := Option.some.inj ht
      have ex : V.int ((i : Nat) : Int) = x := Option.some.inj hx1
      subst ex
      have d7 : Dt H7 (.ref a) (eM M) := d6.to e7.tup
      obtain ⟨u, hu1, hu2⟩ := row_at d7 rfl (e7.tup _ _ hx) il
      rw [show xs[i]? = some z from hx2] at hu1
      obtain rfl : z = u := Option.some.inj hu1
      have e78 : Le f0 H7 (upd H7 T8 (.tup [.int ((i : Nat) : Int), z])) := Le.new nT
      obtain ⟨b, ys, rfl, hb1, hb2⟩ := (hu2.to e78.tup).tup_inv
      cases hb2 with
      | @cons w1 _ _ _ r1 hb2 =>
        cases hb2 with
        | @cons w2 _ _ _ r2 hb2 =>
          cases hb2
          refine ⟨[some (.ref a), some (.ref p), some (.int (c : Int)), some w1, some w2, some (.int ((i : Nat) : Int))], fun R hR => ?_, e78, rfl, et_yes, fun _ => ?_⟩
          · exact ⟨T8, _, rfl, SqT.of upd_same, rfl, _, _, rfl, _, _, rfl, ⟨b, _, rfl, SqT.of hb1, rfl, _, _, rfl, _, _, rfl, rfl, rfl, hR _ (Le.refl _)⟩⟩
          · have hp8 := e78.keep _ _ (fun z => z) (e7.keep _ _ (fun z => z) hp6)
            have kl := ki.len
            have at_ : ∀ j, j < M.length → atI (ns.map fun (n : Nat) => PyData.int (n : Int)) ((j : Nat) : Int) = some (.int ((ns.getD j 0 : Nat) : Int)) := fun j hj => atI_nat (by
              rw [List.getElem?_map]
              have : ns[j]? = some (ns.getD j 0) := by
                have hj' : j < ns.length := by omega
                simp [hj']
              rw [this]
              rfl)
            refine ev_tup (ea_cons (ev_ixL (evv_var rfl) hp8 (fun z => z) (dta_vN ns) (ev_var rfl (.int _)) (at_ i il)) (ea_cons (ev_ixL (evv_var rfl) hp8 (fun z => z) (dta_vN ns) (ev_ixT (ev_var rfl r1) ev_int rfl) (at_ _ (ok.lt i false il)))
              (ea_cons (ev_ixL (evv_var rfl) hp8 (fun z => z) (dta_vN ns) (ev_ixT (ev_var rfl r2) ev_int rfl) (at_ _ (ok.lt i true il))) ea_nil)))
    · rw [flt_true] at hus
      refine ⟨D, us, _, rfl, hD7, hus, by rw [List.length_map]; simpa [trips] using hz, fun d hd => ?_, fun H8 r ns' c' e8 hr8 hns' hnum => ?_⟩
      · obtain ⟨x, _, rfl⟩ := List.mem_map.mp hd
        exact ⟨⟨_, rfl⟩, kd_depth3 _⟩
      have s7 : Same H H7 := s6.trans (le_same e7)
      have hn : Num (trips M ns) ns' c' := by
        refine Num.of_map (f := fun x => keyOf (e3N x)) k3_inj ?_
        rw [List.map_map] at hnum
        exact hnum
      have ki' := KInv.next ok ki hn
      have cM := ki.count
      exact ⟨_, by omega, ns', c', c, r, rfl, s7.trans e8, s7.free hr8, hns', ki', .inr ⟨ns, ki, hn⟩, rfl⟩
  · rw [decide_eq_false (show ¬ (many : Int) < (c : Int) - 1 + 1 by omega)]
    refine iteF ?_
    refine ⟨.ref p, rfl, q H5 p ns s5 hp0 hp5 ?_⟩
    rcases hb with rfl | ⟨ks0, k0, hn⟩
    · omega
    · exact (KInv.stop ok k0 hn (by omega)).2
end
end K13
/-! K13C: least_of, least. -/
namespace KM
/-- the sides of a standing x, told one behind another -/
def Sd (M : Mach) (x : Nat) (order : List Nat) : Nat → List Nat → List Side → Prop
  | 0, o, sd => o = order ∧ sd = []
  | 1, o, sd => ∃ q, Step M order (go M x false) q o ∧ sd = [(ot M x false, q)]
  | 2, o, sd => ∃ o1 q1 q2, Step M order (go M x false) q1 o1 ∧ Step M o1 (go M x true) q2 o ∧ sd = [(ot M x false, q1), (ot M x true, q2)]
  | _, _, _ => False
theorem Sd.go0 {M : Mach} {x q : Nat} {order o o' : List Nat} {sd : List Side} (h : Sd M x order 0 o sd) (s : Step M o (go M x false) q o') : Sd M x order 1 o' (sd ++ [(ot M x false, q)]) := by
  obtain ⟨rfl, rfl⟩ := h
  exact ⟨q, s, rfl⟩
theorem Sd.go1 {M : Mach} {x q : Nat} {order o o' : List Nat} {sd : List Side} (h : Sd M x order 1 o sd) (s : Step M o (go M x true) q o') : Sd M x order 2 o' (sd ++ [(ot M x true, q)]) := by
  obtain ⟨q1, s1, rfl⟩ := h
  exact ⟨o, q1, q, s1, s, rfl⟩
end KM
namespace K13
open PySem PySem.Spec PyProof.Rows L2 KM
/-- where the kinds of the standings that have come stand -/
structure PInv (ns order : List Nat) (kvs : List (Key × V)) : Prop where
  at_ : ∀ (q x : Nat), order[q]? = some x → valV kvs (.inl ((ns.getD x 0 : Nat) : Int)) = some (.int (q : Int))
  of_ : ∀ z v, valV kvs z = some v → ∃ q x : Nat, order[q]? = some x ∧ z = .inl ((ns.getD x 0 : Nat) : Int)
  len : kvs.length ≤ order.length
theorem PInv.old {M : Mach} {ns order : List Nat} {kvs : List (Key × V)} (h : PInv ns order kvs) (ki : Kin M ns) (lt : ∀ t ∈ order, t < M.length) {t : Nat} (ht : t < M.length) {v : V} (e : valV kvs (.inl ((ns.getD t 0 : Nat) : Int)) = some v) :
    ∃ q : Nat, v = .int (q : Int) ∧ Step M order t q order := by
  obtain ⟨q, x, hx, ez⟩ := h.of_ _ _ e
  have ez' : ns.getD t 0 = ns.getD x 0 := by
    have := Sum.inl.inj ez
    omega
  have e2 := h.at_ q x hx
  rw [← ez', e] at e2
  exact ⟨q, Option.some.inj e2, .inl ⟨rfl, x, hx, ((ki.2 x t (lt x (List.mem_of_getElem? hx)) ht).mp ez'.symm)⟩⟩
theorem PInv.fresh {M : Mach} {ns order : List Nat} {kvs : List (Key × V)} (h : PInv ns order kvs) (ki : Kin M ns) (lt : ∀ t ∈ order, t < M.length) {t : Nat} (ht : t < M.length) (e : valV kvs (.inl ((ns.getD t 0 : Nat) : Int)) = none) :
    Step M order t order.length (order ++ [t]) := by
  refine .inr ⟨rfl, rfl, fun x hx s => ?_⟩
  obtain ⟨q, hq⟩ := List.mem_iff_getElem?.mp hx
  have e2 := h.at_ q x hq
  rw [(ki.2 x t (lt x hx) ht).mpr s, e] at e2
  cases e2
theorem PInv.put {ns order : List Nat} {kvs : List (Key × V)} (h : PInv ns order kvs) {t : Nat} (e : valV kvs (.inl ((ns.getD t 0 : Nat) : Int)) = none) :
    PInv ns (order ++ [t]) (putK kvs (.inl ((ns.getD t 0 : Nat) : Int)) (.int ((order.length : Nat) : Int))) := by
  refine ⟨fun q x hq => ?_, fun z v hv => ?_, ?_⟩
  · rw [valV_put]
    rcases snoc_get hq with ⟨_, hq⟩ | ⟨h1, h2⟩
    · have e2 := h.at_ q x hq
      rw [if_neg (fun z => by rw [z, e] at e2; cases e2)]
      exact e2
    · rw [h2, if_pos rfl, h1]
  · rw [valV_put] at hv
    by_cases q : z = .inl ((ns.getD t 0 : Nat) : Int)
    · exact ⟨order.length, t, by simp, q⟩
    · rw [if_neg q] at hv
      obtain ⟨r, x, hr, hz⟩ := h.of_ z v hv
      exact ⟨r, x, by rw [List.getElem?_append_left (List.getElem?_eq_some_iff.mp hr).1]; exact hr, hz⟩
  · have := length_putK kvs (.inl ((ns.getD t 0 : Nat) : Int)) (.int ((order.length : Nat) : Int))
    have := h.len
    rw [List.length_append, List.length_singleton]
    omega
/-- the four objects of least_of -/
structure LH (H : Hp) (H' : Hp) (k o p f : Addr) (ns order : List Nat) (kvs : List (Key × V)) (us : List V) : Prop where
  same : Same H H'
  nk : H k = none
  no : H o = none
  np : H p = none
  nf : H f = none
  ko : k ≠ o
  kp : k ≠ p
  kf : k ≠ f
  op : o ≠ p
  of : o ≠ f
  pf : p ≠ f
  hk : H' k = some (.lst (vN ns))
  ho : H' o = some (.lst (vN order))
  hp : H' p = some (.dK kvs)
  hf : H' f = some (.lst us)
section
variable {H H' H2 : Hp} {k o p f : Addr} {ns order : List Nat} {kvs : List (Key × V)} {us : List V}
theorem LH.to (h : LH H H' k o p f ns order kvs us) (e : Le f0 H' H2) : LH H H2 k o p f ns order kvs us :=
  ⟨h.same.trans (le_same e), h.nk, h.no, h.np, h.nf, h.ko, h.kp, h.kf, h.op, h.of, h.pf, le_same e _ _ h.hk, le_same e _ _ h.ho, le_same e _ _ h.hp, le_same e _ _ h.hf⟩
theorem LH.setP (h : LH H H' k o p f ns order kvs us) {kvs' : List (Key × V)} : LH H (upd H' p (.dK kvs')) k o p f ns order kvs' us :=
  ⟨same_mut h.same h.np, h.nk, h.no, h.np, h.nf, h.ko, h.kp, h.kf, h.op, h.of, h.pf, by rw [upd_ne h.kp]; exact h.hk, by rw [upd_ne h.op]; exact h.ho, upd_same, by rw [upd_ne (Ne.symm h.pf)]; exact h.hf⟩
theorem LH.setO (h : LH H H' k o p f ns order kvs us) {order' : List Nat} : LH H (upd H' o (.lst (vN order'))) k o p f ns order' kvs us :=
  ⟨same_mut h.same h.no, h.nk, h.no, h.np, h.nf, h.ko, h.kp, h.kf, h.op, h.of, h.pf, by rw [upd_ne h.ko]; exact h.hk, upd_same, by rw [upd_ne (Ne.symm h.op)]; exact h.hp, by rw [upd_ne (Ne.symm h.of)]; exact h.hf⟩
theorem LH.setF (h : LH H H' k o p f ns order kvs us) {us' : List V} : LH H (upd H' f (.lst us')) k o p f ns order kvs us' :=
  ⟨same_mut h.same h.nf, h.nk, h.no, h.np, h.nf, h.ko, h.kp, h.kf, h.op, h.of, h.pf, by rw [upd_ne h.kf]; exact h.hk, by rw [upd_ne h.of]; exact h.ho, by rw [upd_ne h.pf]; exact h.hp, upd_same⟩
theorem LH.other (h : LH H H' k o p f ns order kvs us) {s : Addr} {u : HO} (ns' : H s = none) (sk : s ≠ k) (so : s ≠ o) (sp : s ≠ p) (sf : s ≠ f) : LH H (upd H' s u) k o p f ns order kvs us :=
  ⟨same_mut h.same ns', h.nk, h.no, h.np, h.nf, h.ko, h.kp, h.kf, h.op, h.of, h.pf, by rw [upd_ne (Ne.symm sk)]; exact h.hk, by rw [upd_ne (Ne.symm so)]; exact h.ho, by rw [upd_ne (Ne.symm sp)]; exact h.hp, by rw [upd_ne (Ne.symm sf)]; exact h.hf⟩
end
theorem tle_lst {H : Hp} {p : Addr} {xs : List V} {o : HO} (h : H p = some (.lst xs)) : TLe H (upd H p o) := TLe.set h fun _ z => by cases z
theorem tle_dk {H : Hp} {p : Addr} {xs : List (Key × V)} {o : HO} (h : H p = some (.dK xs)) : TLe H (upd H p o) := TLe.set h fun _ z => by cases z
theorem getD_at {l : List Nat} {j : Nat} (h : j < l.length) : l[j]? = some (l.getD j 0) := by simp [h]
theorem atI_vN {l : List Nat} {j x : Nat} (h : l[j]? = some x) : atI (l.map fun (n : Nat) => PyData.int (n : Int)) ((j : Nat) : Int) = some (.int (x : Int)) := atI_nat (by rw [List.getElem?_map, h]; rfl)
theorem vN_len (l : List Nat) : (vN l).length = l.length := List.length_map _
def sp_least_of : Sp := fun vs H Q _ => ∃ M, DtA H vs [eM M] ∧ Ok M ∧ M.length ≤ 1000000 ∧ ∀ L v H', Same H H' → IsLst M L → L.length ≤ M.length → Dt H' v (eM L) → Q v H'
section
variable {P : Program} {w : World} {K : PySem.W.Frag} {mg : Str → Option Value} {base : Heap}
theorem ok_least_of (T : Top mg) (A : At K mg "least_of" s_least_of ["told"]) (f_kinds_of : Fn P w K mg base 2 "kinds_of" ["told"] sp_kinds_of) : Fn P w K mg base 3 "least_of" ["told"] sp_least_of := by
  refine A.fn c_least_of (fun vs H Q E h => by obtain ⟨M, h, _⟩ := h; exact h.length) fun f cdv A outer s H vs Q E hr h => ?_
  obtain ⟨M, h, ok, hz, q⟩ := h
  obtain ⟨v, rfl, h1⟩ := dta1 h
  refine ⟨_, (pss_cons (ps_set (i := 1) c_least_of.nd rfl (.inl rfl) (pe_fn f_kinds_of (hr.mono (by decide)) rfl (pa_cons (pv 0) pa_nil)))
      (pss_cons (ps_set (i := 2) c_least_of.nd rfl (.inl rfl) (pe_lst (pa_cons pe_int pa_nil)))
      (pss_cons (ps_set (i := 3) c_least_of.nd rfl (.inl rfl) (pe_disp (pps_cons (pe_ix (ixL K rfl) (pv 1) pe_int (fun _ _ => rfl)) pe_int pps_nil) (by rfl) (by rfl) (fun z => by cases z) (by show 1 ≤ 15; decide)))
      (pss_cons (ps_set (i := 4) c_least_of.nd rfl (.inl rfl) (pe_lst pa_nil))
      (pss_cons (ps_while PassesOwn.never (pt_cmpR op_lt (pe_callB (cl_len K rfl) (by rfl) T.len_ (by decide +kernel) (pa_cons (pv 4) pa_nil)) (pe_callB (cl_len K rfl) (by rfl) T.len_ (by decide +kernel) (pa_cons (pv 2) pa_nil)) (nomark _)) (pss_cons (ps_set (i := 5) c_least_of.nd rfl (.inl rfl) (pe_lst pa_nil))
      (pss_cons (ps_for PassesOwn.never rfl (pi_tup (pe_ix (ixT K rfl) (pv 0) (pe_ix (ixL K rfl) (pv 2) (pe_callB (cl_len K rfl) (by rfl) T.len_ (by decide +kernel) (pa_cons (pv 4) pa_nil)) (fun _ _ => rfl)) (fun _ _ => rfl))) (pg_tup rfl (pgs_cons (pg_name (i := 6) c_least_of.nd rfl (.inl rfl)) (pgs_cons (pg_name (i := 7) c_least_of.nd rfl (.inl rfl)) pgs_nil))) (pss_cons (ps_if (pt_cmp (pc_dnotin (hu_of hr) (pe_ix (ixL K rfl) (pv 1) (pv 7) (fun _ _ => rfl)) (pv 3)) (by rfl)) (pss_cons (ps_dput (hu_of hr) (pv 3) (pe_ix (ixL K rfl) (pv 1) (pv 7) (fun _ _ => rfl)) (pe_callB (cl_len K rfl) (by rfl) T.len_ (by decide +kernel) (pa_cons (pv 2) pa_nil)) rfl)
      (pss_one (ps_expr (pe_bmK K rfl PySem.F.plainAttrs_list PySem.F.slot_list_append PySem.F.type_list_append (mt_append) (pv 2) (pa_cons (pv 7) pa_nil))))) pss_nil)
      (pss_one (ps_expr (pe_bmK K rfl PySem.F.plainAttrs_list PySem.F.slot_list_append PySem.F.type_list_append (mt_append) (pv 5) (pa_cons (pe_tup (pa_cons (pv 6) (pa_cons (pe_dget (hu_of hr) (pv 3) (pe_ix (ixL K rfl) (pv 1) (pv 7) (fun _ _ => rfl)) (fun _ _ => rfl)) pa_nil))) pa_nil))))))
      (pss_one (ps_expr (pe_bmK K rfl PySem.F.plainAttrs_list PySem.F.slot_list_append PySem.F.type_list_append (mt_append) (pv 4) (pa_cons (pe_callTy (cl_tuple K rfl) (by rfl) T.tuple_ (by decide +kernel) (pa_cons (pv 5) pa_nil)) pa_nil)))))))
      (pss_one (ps_ret (pe_callTy (cl_tuple K rfl) (by rfl) T.tuple_ (by decide +kernel) (pa_cons (pv 4) pa_nil))))))))), ?_⟩
  refine n_set (r_call1 ⟨v, rfl, M, .cons h1 .nil, ok, hz, fun H1 k ns s1 nk hk ki => ?_⟩)
  -- order = [0]
  refine n_set ⟨by show 1 ≤ sizeLine; decide, fun o no => ?_⟩
  have ko : k ≠ o := ne_of_none hk no
  have no0 : H o = none := s1.free no
  have s2 : Same H (upd H1 o (.lst [.int 0])) := s1.trans (same_new no)
  have hk2 : (upd H1 o (.lst [.int 0])) k = some (.lst (vN ns)) := by rw [upd_ne ko]; exact hk
  generalize hH2 : upd H1 o (.lst [.int 0]) = H2 at *
  have ho2 : H2 o = some (.lst (vN [0])) := by rw [← hH2]; exact upd_same
  clear hH2
  -- places = {kinds[0]: 0}
  refine n_set fun p np => ?_
  have kp : k ≠ p := ne_of_none hk2 np
  have op : o ≠ p := ne_of_none ho2 np
  have np0 : H p = none := s2.free np
  have hk3 : (upd H2 p (.dK [])) k = some (.lst (vN ns)) := by rw [upd_ne kp]; exact hk2
  have ns0 : ns[0]? = some (ns.getD 0 0) := getD_at (by rw [ki.1]; exact ok.pos)
  refine ⟨.ref k, rfl, k, vN ns, 0, .int ((ns.getD 0 0 : Nat) : Int), rfl, rfl, SqL.of hk3, atI_nat (by rw [List.getElem?_map, ns0]; rfl), ?_⟩
  refine ⟨upd_same, [(.inl ((ns.getD 0 0 : Nat) : Int), .int 0)], rfl, Nat.le_of_ble_eq_true rfl, ?_⟩
  -- found = []
  refine n_set ⟨Nat.zero_le _, fun f nf => ?_⟩
  have s3 : Same H (upd (upd H2 p (.dK [])) p (.dK (mergeK [] [(.inl ((ns.getD 0 0 : Nat) : Int), .int 0)]))) := same_mut (s2.trans (same_new np)) np0
  have nf0 : H f = none := s3.free nf
  rw [upd_upd] at nf ⊢
  have hp4 : (upd H2 p (.dK (mergeK [] [(.inl ((ns.getD 0 0 : Nat) : Int), V.int 0)]))) p = some (.dK [(.inl ((ns.getD 0 0 : Nat) : Int), .int 0)]) := upd_same
  have ho4 : (upd H2 p (.dK (mergeK [] [(.inl ((ns.getD 0 0 : Nat) : Int), V.int 0)]))) o = some (.lst (vN [0])) := by rw [upd_ne op]; exact ho2
  have hk4 : (upd H2 p (.dK (mergeK [] [(.inl ((ns.getD 0 0 : Nat) : Int), V.int 0)]))) k = some (.lst (vN ns)) := by rw [upd_ne kp]; exact hk2
  have s4 : Same H (upd H2 p (.dK (mergeK [] [(.inl ((ns.getD 0 0 : Nat) : Int), V.int 0)]))) := same_mut s2 np0
  generalize hH4 : upd H2 p (.dK (mergeK [] [(.inl ((ns.getD 0 0 : Nat) : Int), V.int 0)])) = H4 at *
  clear hH4 s3 hk3
  have kf : k ≠ f := ne_of_none hk4 nf
  have of : o ≠ f := ne_of_none ho4 nf
  have pf : p ≠ f := ne_of_none hp4 nf
  have L0 : LH H (upd H4 f (.lst [])) k o p f ns [0] [(.inl ((ns.getD 0 0 : Nat) : Int), .int 0)] [] :=
    ⟨s4.trans (same_new nf), nk, no0, np0, nf0, ko, kp, kf, op, of, pf, by rw [upd_ne kf]; exact hk4, by rw [upd_ne of]; exact ho4, by rw [upd_ne pf]; exact hp4, upd_same⟩
  have B0 := BInv.init ok
  have P0 : PInv ns [0] [(.inl ((ns.getD 0 0 : Nat) : Int), .int 0)] := by
    refine ⟨fun r x hx => ?_, fun z u hu => ?_, Nat.le_refl _⟩
    · have h1 := (List.getElem?_eq_some_iff.mp hx).1
      have e : r = 0 := by simp at h1; omega
      subst e
      have e : 0 = x := Option.some.inj hx
      subst e
      exact valV_pos rfl
    · by_cases e : Sum.inl ((ns.getD 0 0 : Nat) : Int) = z
      · exact ⟨0, 0, rfl, e.symm⟩
      · rw [valV_neg e] at hu
        cases hu
  refine n_while ⟨fun m σ H' => ∃ order kvs us F su sv sw, σ = [some v, some (.ref k), some (.ref o), some (.ref p), some (.ref f), su, sv, sw] ∧ LH H H' k o p f ns order kvs us ∧ DtA H' us (F.map eRow) ∧ BInv M order F ∧ PInv ns order kvs ∧ m = M.length - F.length,
    ⟨_, [0], _, [], [], none, none, none, rfl, L0, .nil, B0, P0, rfl⟩, ?_⟩
  clear B0 P0 L0 s4 hk4 ho4 hp4 ns0 hk2 ho2 s2 hk s1 nf np no kf of pf op kp ko
  rintro m σ H5 ⟨order, kvs, us, F, su, sv, sw, rfl, L, hus, B, PI, rfl⟩
  have lus : us.length = F.length := by rw [hus.length, List.length_map]
  have few := B.few
  refine et_test (f := f0) (ev_ib (ev_lenL (evv_var rfl) L.hf (fun z => z)) (ev_lenL (evv_var rfl) L.ho (fun z => z))) H5 (Le.refl _) _ fun H6 e6 => ?_
  rw [vN_len, lus]
  have L6 := L.to e6
  have hus6 := hus.to e6.tup
  by_cases hlt : F.length < order.length
  · rw [decide_eq_true (show (F.length : Int) < (order.length : Int) by omega)]
    refine iteT ⟨_, fun _ _ h => h, ?_⟩
    obtain ⟨x, hx⟩ : ∃ x, order[F.length]? = some x := ⟨order[F.length], by simp [hlt]⟩
    have xl := B.lt x (List.mem_of_getElem? hx)
    -- sides = []
    refine n_set ⟨Nat.zero_le _, fun s ns' => ?_⟩
    have sk : s ≠ k := Ne.symm (ne_of_none L6.hk ns')
    have so : s ≠ o := Ne.symm (ne_of_none L6.ho ns')
    have sp : s ≠ p := Ne.symm (ne_of_none L6.hp ns')
    have sf : s ≠ f := Ne.symm (ne_of_none L6.hf ns')
    have ns0 : H s = none := L6.same.free ns'
    have L7 := L6.other (u := .lst []) ns0 sk so sp sf
    have hus7 : DtA (upd H6 s (.lst [])) us (F.map eRow) := hus6.to (TLe.new ns')
    have hs7 : (upd H6 s (.lst [])) s = some (.lst []) := upd_same
    generalize upd H6 s (.lst []) = H7 at *
    -- for shows, there in told[order[len(found)]]
    have d7 : Dt H7 v (.tuple (M.map eRow)) := Dt.to (d := eM M) h1 (same_tup L7.same)
    have hrow : (M.map eRow)[x]? = some (.tuple [eSide (ot M x false, go M x false), eSide (ot M x true, go M x true)]) := by rw [List.getElem?_map, row_eq xl]; rfl
    refine n_for (ev_ixT (f := f0) (ev_var rfl d7) (ev_ixL (evv_var rfl) L7.ho (fun z => z) (dta_vN order) (ev_lenL (evv_var rfl) L7.hf (fun z => z)) (by rw [lus]; exact atI_vN hx)) (atI_nat hrow) H7 (Le.refl _) _ fun r H8 e8 hr8 => ?_)
    have L8 := L7.to e8
    have hus8 := hus7.to e8.tup
    have hs8 := le_same e8 _ _ hs7
    obtain ⟨a, rs, rfl, ha, hrs⟩ := hr8.tup_inv
    refine ⟨a, rfl, ⟨rs, SqT.of ha⟩, ?_⟩
    have lrs : rs.length = 2 := hrs.length
    refine for_tup (xs := rs) (fun i σ' H' => ∃ order' kvs' su sd sv sw, σ' = [some v, some (.ref k), some (.ref o), some (.ref p), some (.ref f), some (.ref s), sv, sw] ∧ LH H H' k o p f ns order' kvs' us ∧ H' s = some (.lst su) ∧ DtA H' su (sd.map eSide) ∧
        su.length ≤ 2 ∧ Sd M x order i order' sd ∧ PInv ns order' kvs' ∧ (∀ t ∈ order', t < M.length) ∧ DtA H' us (F.map eRow) ∧ H' a = some (.tup rs) ∧ DtA H' rs [eSide (ot M x false, go M x false), eSide (ot M x true, go M x true)] ∧ order'.length ≤ order.length + i ∧ su.length = i)
      ⟨order, kvs, [], [], sv, sw, rfl, L8, hs8, .nil, by decide, ⟨rfl, rfl⟩, PI, B.lt, hus8, ha, hrs, Nat.le_refl _, rfl⟩ (fun i σ H' _ h => by obtain ⟨_, _, _, _, _, _, _, _, _, _, _, _, _, _, _, h, _⟩ := h; exact SqT.of h) (fun i rx σ' H9 hrx h => ?_) fun σ' H9 h => ?_
    · obtain ⟨order', kvs', su, sd, sv', sw', rfl, L9, hs9, hsu, zsu, hSd, PI9, lt9, hus9, ha9, hrs9, ol9, sul⟩ := h
      obtain ⟨b, hb⟩ : ∃ b : Bool, ([eSide (ot M x false, go M x false), eSide (ot M x true, go M x true)] : List PyData)[i]? = some (eSide (ot M x b, go M x b)) ∧ ∀ o' q, Step M order' (go M x b) q o' → Sd M x order (i + 1) o' (sd ++ [(ot M x b, q)]) := by
        have hi := (List.getElem?_eq_some_iff.mp hrx).1
        have hi2 : i = 0 ∨ i = 1 := by omega
        rcases hi2 with rfl | rfl
        · exact ⟨false, rfl, fun o' q st => hSd.go0 st⟩
        · exact ⟨true, rfl, fun o' q st => hSd.go1 st⟩
      obtain ⟨hbi, hgo⟩ := hb
      obtain ⟨rx', hrx', drx⟩ := hrs9.get hbi
      rw [hrx] at hrx'
      cases hrx'
      obtain ⟨c, ys, rfl, hc1, hc2⟩ := (show Dt H9 rx (.tuple [.bool (ot M x b), .int ((go M x b : Nat) : Int)]) from drx).tup_inv
      obtain ⟨w1, w2, rfl, hw1, hw2⟩ := dta2 hc2
      obtain rfl : w2 = .int ((go M x b : Nat) : Int) := hw2.int_eq
      have tl : go M x b < M.length := ok.lt x b xl
      refine ⟨c, _, rfl, SqT.of hc1, rfl, _, _, rfl, _, _, rfl, rfl, ?_⟩
      have nt : ns[go M x b]? = some (ns.getD (go M x b) 0) := getD_at (by rw [ki.1]; exact tl)
      have ix : atI (vN ns) ((go M x b : Nat) : Int) = some (.int ((ns.getD (go M x b) 0 : Nat) : Int)) := atI_nat (by rw [List.getElem?_map, nt]; rfl)
      -- sides.append((shows, places[kinds[there]]))
      have tail : ∀ order'' kvs'' H10 (r : Nat), LH H H10 k o p f ns order'' kvs'' us → H10 s = some (.lst su) → TLe H9 H10 → PInv ns order'' kvs'' → valV kvs'' (.inl ((ns.getD (go M x b) 0 : Nat) : Int)) = some (.int (r : Int)) → Step M order' (go M x b) r order'' → order''.length ≤ order'.length + 1 →
          tDrop (tBM K "list" rAppend (tVar 5) (tCons (tTup (tCons (tVar 6) (tCons (tDGet (tVar 3) (tOp (rIxL K) (tVar 1) (tVar 7))) tNil))) tNil))
            { nx := fun σ' H' => ∃ order' kvs' su sd sv sw, σ' = [some v, some (.ref k), some (.ref o), some (.ref p), some (.ref f), some (.ref s), sv, sw] ∧ LH H H' k o p f ns order' kvs' us ∧ H' s = some (.lst su) ∧ DtA H' su (sd.map eSide) ∧
                su.length ≤ 2 ∧ Sd M x order (i + 1) order' sd ∧ PInv ns order' kvs' ∧ (∀ t ∈ order', t < M.length) ∧ DtA H' us (F.map eRow) ∧ H' a = some (.tup rs) ∧ DtA H' rs [eSide (ot M x false, go M x false), eSide (ot M x true, go M x true)] ∧ order'.length ≤ order.length + (i + 1) ∧ su.length = i + 1,
              rt := Q } [some v, some (.ref k), some (.ref o), some (.ref p), some (.ref f), some (.ref s), some w1, some (.int ((go M x b : Nat) : Int))] H10 := by
        intro order'' kvs'' H10 r L10 hs10 tle PI10 hv10 st ol
        refine r_drop ⟨.ref s, rfl, .inl ⟨rfl, _, SqL.of hs10⟩, w1, rfl, .ref p, rfl, .ref k, rfl, .int ((go M x b : Nat) : Int), rfl, k, vN ns, ((go M x b : Nat) : Int), _, rfl, rfl, SqL.of L10.hk, ix, p, .int (r : Int), rfl, ?_, by show 2 ≤ sizeLine; decide, fun T nT => ?_⟩
        · have := DGet.k (k := Sum.inl ((ns.getD (go M x b) 0 : Nat) : Int)) L10.hp
          rw [hv10] at this
          exact this
        have eT : Le f0 H10 (upd H10 T (.tup [w1, .int (r : Int)])) := Le.new nT
        have L11 := L10.to eT
        have hs11 : (upd H10 T (.tup [w1, .int (r : Int)])) s = some (.lst su) := le_same eT _ _ hs10
        have dT : Dt (upd H10 T (.tup [w1, .int (r : Int)])) (.ref T) (eSide (ot M x b, r)) := .tup upd_same (.cons (hw1.to (tle.trans eT.tup)) (.cons (.int _) .nil))
        have tle2 := tle.trans eT.tup
        generalize upd H10 T (.tup [w1, .int (r : Int)]) = H11 at *
        have ts := tle_lst (o := .lst (su ++ [.ref T])) hs11
        have hi := (List.getElem?_eq_some_iff.mp hrx).1
        refine ⟨s, su, .ref T, rfl, rfl, hs11, by rw [sizeLine_eq]; omega, order'', kvs'', su ++ [.ref T], sd ++ [(ot M x b, r)], some w1, some (.int ((go M x b : Nat) : Int)), rfl, L11.other ns0 sk so sp sf, upd_same, ?_, ?_, hgo _ _ st, PI10, st.lt tl lt9, ?_, ?_, ?_, by omega, ?_⟩
        · rw [List.map_append]
          exact ((hsu.to tle2).snoc dT).to ts
        · rw [List.length_append, List.length_singleton]; omega
        · exact (hus9.to tle2).to ts
        · exact ts _ _ (tle2 _ _ ha9)
        · exact (hrs9.to tle2).to ts
        · rw [List.length_append, List.length_singleton, sul]
      refine n_when ⟨.ref k, rfl, .int ((go M x b : Nat) : Int), rfl, k, vN ns, ((go M x b : Nat) : Int), _, rfl, rfl, SqL.of L9.hk, ix, .ref p, rfl, p, _, rfl, DGet.k (k := Sum.inl ((ns.getD (go M x b) 0 : Nat) : Int)) L9.hp, _, rfl, ?_⟩
      cases ev : valV kvs' (Sum.inl ((ns.getD (go M x b) 0 : Nat) : Int)) with
      | some u =>
        refine iteF ?_
        obtain ⟨r, rfl, st⟩ := PI9.old ki lt9 tl ev
        exact tail order' kvs' H9 r L9 hs9 (TLe.refl _) PI9 ev st (Nat.le_succ _)
      | none =>
        refine iteT ?_
        have l1 := PI9.len
        refine r_seq ⟨.ref o, rfl, o, vN order', rfl, .inl (SqL.of L9.ho), .ref p, rfl, .ref k, rfl, .int ((go M x b : Nat) : Int), rfl, k, vN ns, ((go M x b : Nat) : Int), _, rfl, rfl, SqL.of L9.hk, ix, p, _, rfl,
          DPut.k (k := Sum.inl ((ns.getD (go M x b) 0 : Nat) : Int)) L9.hp (by rw [sizeLine_eq]; have := B.len; omega), ?_⟩
        have L10 := L9.setP (kvs' := putK kvs' (Sum.inl ((ns.getD (go M x b) 0 : Nat) : Int)) (.int ((vN order').length : Int)))
        dsimp only
        refine r_drop ⟨.ref o, rfl, .inl ⟨rfl, _, SqL.of L10.ho⟩, .int ((go M x b : Nat) : Int), rfl, o, vN order', _, rfl, rfl, L10.ho, by rw [vN_len, sizeLine_eq]; have := B.len; omega, ?_⟩
        have L11 := L10.setO (order' := order' ++ [go M x b])
        rw [vN_snoc] at L11
        have st := PI9.fresh ki lt9 tl ev
        refine tail (order' ++ [go M x b]) _ _ order'.length L11 ?_ ?_ ?_ ?_ st (by rw [List.length_append]; exact Nat.le_refl _)
        · rw [upd_ne so, upd_ne sp]
          exact hs9
        · exact (tle_dk L9.hp).trans (tle_lst L10.ho)
        · rw [vN_len]
          exact PI9.put ev
        · rw [valV_put, if_pos rfl, vN_len]
    · obtain ⟨order', kvs', su, sd, sv', sw', rfl, L9, hs9, hsu, zsu, hSd, PI9, lt9, hus9, ha9, hrs9, ol9, sul⟩ := h
      rw [lrs] at hSd
      obtain ⟨o1, q1, q2, st1, st2, rfl⟩ := hSd
      -- found.append(tuple(sides))
      dsimp only
      refine r_drop ⟨.ref f, rfl, .inl ⟨rfl, _, SqL.of L9.hf⟩, .ref s, rfl, s, su, rfl, .inl ⟨SqL.of hs9, fun T nT => ?_⟩⟩
      have eT : Le f0 H9 (upd H9 T (.tup su)) := Le.new nT
      have L10 := L9.to eT
      have dT : Dt (upd H9 T (.tup su)) (.ref T) (eRow ((ot M x false, q1), (ot M x true, q2))) := .tup upd_same (hsu.to eT.tup)
      have hus10 := hus9.to eT.tup
      generalize upd H9 T (.tup su) = H10 at *
      have tf := tle_lst (o := .lst (us ++ [.ref T])) L10.hf
      have B2 := B.next ok hx st1 st2
      have few2 := B2.few
      have len2 := B2.len
      refine ⟨f, us, .ref T, rfl, rfl, L10.hf, by rw [lus, sizeLine_eq]; omega, M.length - (F ++ [((ot M x false, q1), (ot M x true, q2))]).length, ?_, order', kvs', us ++ [.ref T], F ++ [((ot M x false, q1), (ot M x true, q2))], _, _, _, rfl, L10.setF, ?_, B2, PI9, rfl⟩
      · rw [List.length_append, List.length_singleton]; omega
      · rw [List.map_append]
        exact (hus10.snoc dT).to tf
  · rw [decide_eq_false (show ¬ (F.length : Int) < (order.length : Int) by omega)]
    refine iteF ?_
    have len := B.len
    refine s_ret (f := f0) (ev_tupL (evv_var rfl) L6.hf (fun z => z) hus6) fun u H7 e7 hu => q F u H7 (L6.same.trans (le_same e7)) (B.done (by omega)) (by omega) hu
end
end K13
/-! K13D: least, flags_to, unlike_flags, shown_by. -/
namespace K13
open PySem PySem.Spec PyProof.Rows L2 KM
def eP (x : Nat × Nat) : PyData := .tuple [.int (x.1 : Int), .int (x.2 : Int)]
def kP (x : Nat × Nat) : NestedKey := keyOf (eP x)
theorem kP_inj {x y : Nat × Nat} (h : kP x = kP y) : x = y := by
  obtain ⟨a, b⟩ := x
  obtain ⟨c, d⟩ := y
  simp only [kP, eP, keyOf, keysOf, NestedKey.tup.injEq, List.cons.injEq, NestedKey.num.injEq, and_true] at h
  simp only [Prod.mk.injEq]
  omega
theorem kP_depth (x : Nat × Nat) : (kP x).depth ≤ 8 := by simp [kP, eP, keyOf, keysOf, NestedKey.depth, NestedKey.depthAll]
def eW (w : List Bool) : PyData := .tuple (w.map PyData.bool)
def eR : Option (List Bool) → PyData
  | none => .none
  | some w => eW w
/-- the dict of unlike_flags: to each pair met the flag and the pair from which it was -/
structure CInv (M N : Mach) (H : Hp) (l : NL) (E : List (List Bool)) : Prop where
  len : l.length = E.length
  at_ : ∀ (i : Nat) (w : List Bool), E[i]? = some w → ∃ (a : Addr) (v : V), l[i]? = some (kP (rc M N w), a, v) ∧ ((i = 0 ∧ v = .non) ∨ ∃ (j : Nat) (b : Bool) (u : List Bool), E[j]? = some u ∧ j < i ∧ w = u ++ [b] ∧ Dt H v (.tuple [.bool b, eP (rc M N u)]))
section
variable {M N : Mach} {H H' : Hp} {l : NL} {E : List (List Bool)} {p : Nat}
theorem CInv.to (h : CInv M N H l E) (e : TLe H H') : CInv M N H' l E := ⟨h.len, fun i w hw => by
  obtain ⟨a, v, h1, h2⟩ := h.at_ i w hw
  refine ⟨a, v, h1, ?_⟩
  rcases h2 with h2 | ⟨j, b, u, g1, g2, g3, g4⟩
  · exact .inl h2
  · exact .inr ⟨j, b, u, g1, g2, g3, g4.to e⟩⟩
theorem CInv.key (h : CInv M N H l E) {i : Nat} {k : NestedKey} (hk : (l.map (·.1))[i]? = some k) : ∃ w, E[i]? = some w ∧ k = kP (rc M N w) := by
  rw [List.getElem?_map] at hk
  obtain ⟨x, hx, rfl⟩ := Option.map_eq_some_iff.mp hk
  have hl := (List.getElem?_eq_some_iff.mp hx).1
  have he : E[i]? = some (E[i]'(by rw [← h.len]; exact hl)) := by simp [← h.len, hl]
  obtain ⟨a, v, h1, _⟩ := h.at_ i _ he
  rw [hx] at h1
  have := Option.some.inj h1
  subst this
  exact ⟨_, he, rfl⟩
theorem CInv.nodup (h : CInv M N H l E) (U : UInv M N E p) : (l.map (·.1)).Nodup := nodup_of_ix _ fun i j x hi hj => by
  obtain ⟨u, hu, rfl⟩ := h.key hi
  obtain ⟨v, hv, e⟩ := h.key hj
  exact U.inj i j u v hu hv (kP_inj e)
theorem CInv.has (h : CInv M N H l E) {x : Nat × Nat} {v : V} (hv : valN l (kP x) = some v) : ∃ (i : Nat) (w : List Bool), E[i]? = some w ∧ rc M N w = x := by
  obtain ⟨q, a, hq⟩ := valN_some hv
  obtain ⟨w, hw, e⟩ := h.key (i := q) (k := kP x) (by rw [List.getElem?_map, hq]; rfl)
  exact ⟨q, w, hw, (kP_inj e).symm⟩
theorem CInv.hasnt (h : CInv M N H l E) {x : Nat × Nat} (hv : valN l (kP x) = none) : ∀ w ∈ E, rc M N w ≠ x := fun w hw e => by
  obtain ⟨i, hi⟩ := List.mem_iff_getElem?.mp hw
  obtain ⟨a, v, h1, _⟩ := h.at_ i w hi
  refine valN_none hv (List.mem_map.mpr ⟨_, List.mem_of_getElem? h1, ?_⟩)
  rw [e]
theorem CInv.snoc (h : CInv M N H l E) {j : Nat} {b : Bool} {u : List Bool} {a : Addr} {v : V} (hu : E[j]? = some u) (hd : Dt H v (.tuple [.bool b, eP (rc M N u)])) : CInv M N H (l ++ [(kP (rc M N (u ++ [b])), a, v)]) (E ++ [u ++ [b]]) := by
  refine ⟨by rw [List.length_append, List.length_append, h.len]; rfl, fun i w hw => ?_⟩
  rcases snoc_get hw with ⟨h1, hw⟩ | ⟨h1, rfl⟩
  · obtain ⟨a', v', g1, g2⟩ := h.at_ i w hw
    refine ⟨a', v', at_app g1, ?_⟩
    rcases g2 with g2 | ⟨j', b', u', k1, k2, k3, k4⟩
    · exact .inl g2
    · exact .inr ⟨j', b', u', at_app k1, k2, k3, k4⟩
  · refine ⟨a, v, by rw [h1, ← h.len]; simp, .inr ⟨j, b, u, at_app hu, ?_, rfl, hd⟩⟩
    have := (List.getElem?_eq_some_iff.mp hu).1
    omega
end
section
variable {f : Fx} {σ : L2.St} {H : Hp} {K : PySem.W.Frag} {ta tb te : TE} {ds es : List PyData}
theorem ev_catT (ha : EvD f ta σ H (.tuple ds)) (hb : EvD f tb σ H (.tuple es)) (hz : ds.length + es.length ≤ 1000000) : EvD f (tOp (rCatA K) ta tb) σ H (.tuple (ds ++ es)) :=
  ev_2 ha hb fun x y H1 hx hy Q q => by
    obtain ⟨a, xs, rfl, h1, h2⟩ := hx.tup_inv
    obtain ⟨b, ys, rfl, g1, g2⟩ := hy.tup_inv
    refine ⟨a, b, xs, ys, rfl, rfl, SqT.of h1, SqT.of g1, by rw [h2.length, g2.length]; exact small hz, fun e => ?_, fun _ e => ?_, fun _ _ p hp => ?_⟩
    · subst e
      cases h2
      exact q _ H1 (Le.refl _) (.tup g1 g2)
    · subst e
      cases g2
      rw [List.append_nil] at q
      exact q _ H1 (Le.refl _) (.tup h1 h2)
    · exact q _ _ (Le.new hp) (.tup upd_same ((h2.app g2).to (TLe.new hp)))
theorem el_rev {l : Addr} {us : List V} (ha : EvV f te σ H (.ref l)) (hl : H l = some (.lst us)) (hu : DtA H us ds) (hB : ∀ p, ¬ f.B p) : EvL f (tRevL K te) σ H ds.reverse := fun H1 e1 Q q => ha H1 e1 _ fun H2 e2 => by
  have e12 := e1.trans e2
  refine ⟨l, us, rfl, SqL.of (e12.keep _ _ (hB l) hl), fun p hp => q p us.reverse _ (e2.trans (Le.new hp)) (e2.back (hB p) hp) upd_same ?_⟩
  have rev : ∀ {us : List V} {ds : List PyData}, DtA H2 us ds → DtA H2 us.reverse ds.reverse := by
    intro us
    induction us with
    | nil => intro ds h; cases h; exact .nil
    | cons u us ih =>
      intro ds h
      cases h with
      | cons h1 h2 =>
        rw [List.reverse_cons, List.reverse_cons]
        exact (ih h2).snoc h1
  exact (rev (hu.to e12.tup)).to (TLe.new hp)
end
theorem pe_revLK (K : PySem.W.Frag) {X : Cx} (h : X.K = K) {e : Expr} {te : TE} {k : Nat} {p1 p2 p3 pos : Pos} (he : PE X e te) : PE X (.Subscript e (.Slice none none (some (.UnaryOp .USub (.Constant (.int 1) k p1) p2)) p3) pos) (tRevL K te) := h ▸ pe_revL he
def sp_flags_to (P : Program) (w : World) : Sp := fun vs H Q _ => ∃ (M N : Mach) (d : Addr) (l : NL) (E : List (List Bool)) (p i : Nat) (x : List Bool) (u : V), vs = [.ref d, u] ∧ ND P w H d l ∧ CInv M N H l E ∧ UInv M N E p ∧ E[i]? = some x ∧ Dt H u (eP (rc M N x)) ∧ E.length ≤ 1000000 ∧ RetD H Q (eW x)
def sp_unlike : Sp := fun vs H Q _ => ∃ M N, DtA H vs [eM M, eM N] ∧ Ok M ∧ Ok N ∧ M.length ≤ 1000000 ∧ N.length ≤ 1000000 ∧ M.length * N.length ≤ 999999 ∧
  ∀ r v H', Same H H' → IsUnl M N r → (∀ x, r = some x → x.length ≤ M.length * N.length) → Dt H' v (eR r) → Q v H'
section
variable {P : Program} {w : World} {K : PySem.W.Frag} {mg : Str → Option Value} {base : Heap}
theorem ok_least (A : At K mg "least" s_least ["told"]) (f_check_machine : Fn P w K mg base 5 "check_machine" ["thing"] sp_check) (f_least_of : Fn P w K mg base 3 "least_of" ["told"] sp_least_of) : Fn P w K mg base 6 "least" ["told"] sp_least_of := by
  refine A.fn c_least (fun vs H Q E h => by obtain ⟨M, h, _⟩ := h; exact h.length) fun f cdv A outer s H vs Q E hr h => ?_
  obtain ⟨M, h, ok, hz, q⟩ := h
  obtain ⟨v, rfl, h1⟩ := dta1 h
  refine ⟨_, (pss_cons (ps_expr (pe_fn f_check_machine (hr.mono (by decide)) rfl (pa_cons (pv 0) pa_nil)))
      (pss_one (ps_ret (pe_fn f_least_of (hr.mono (by decide)) rfl (pa_cons (pv 0) pa_nil))))), ?_⟩
  refine s_drop (f := f0) (ev_call (d := .none) (ea_cons (ev_var rfl h1) ea_nil) (fun H1 vs e hv Q r => ⟨M, hv, ok, hz, r⟩) f0_same) fun H1 e1 => ?_
  have h2 := h1.to e1.tup
  dsimp only
  exact r_ret (r_call1 ⟨v, rfl, M, .cons h2 .nil, ok, hz, fun L u H' s il ll hd => q L u H' ((le_same e1).trans s) il ll hd⟩)
theorem ok_flags_to (T : Top mg) (A : At K mg "flags_to" s_flags_to ["came", "pair"]) : Fn P w K mg base 1 "flags_to" ["came", "pair"] (sp_flags_to P w) := by
  refine A.fn c_flags_to (fun vs H Q E h => by obtain ⟨M, N, d, l, E, p, i, x, u, rfl, _⟩ := h; rfl) fun f cdv A outer s H vs Q E' hr h => ?_
  obtain ⟨M, N, d, l, E, p, i, x, u, rfl, nd, C, U, hx, hu, hz, q⟩ := h
  refine ⟨_, (pss_cons (ps_set (i := 2) c_flags_to.nd rfl (.inl rfl) (pe_lst pa_nil))
      (pss_cons (ps_while PassesOwn.never (pt_cmpR op_notN (peGetN P w rfl rfl hr.units (pv 0) (pv 1) (fun _ _ => rfl)) pe_non (nomark _)) (pss_cons (ps_asg (peGetN P w rfl rfl hr.units (pv 0) (pv 1) (fun _ _ => rfl)) (pg_tup rfl (pgs_cons (pg_name (i := 3) c_flags_to.nd rfl (.inl rfl)) (pgs_cons (pg_name (i := 1) c_flags_to.nd rfl (.inl rfl)) pgs_nil))))
      (pss_one (ps_expr (pe_bmK K rfl PySem.F.plainAttrs_list PySem.F.slot_list_append PySem.F.type_list_append (mt_append) (pv 2) (pa_cons (pv 3) pa_nil))))))
      (pss_one (ps_ret (pe_callTy (cl_tuple K rfl) (by rfl) T.tuple_ (by decide +kernel) (pa_cons (pe_revLK K rfl (pv 2)) pa_nil)))))), ?_⟩
  refine n_set ⟨Nat.zero_le _, fun f nf => ?_⟩
  have fd : f ≠ d := Ne.symm (ne_of_none nd.at_ nf)
  have e1 : Same H (upd H f (.lst [])) := same_new nf
  have nodup := C.nodup U
  refine n_while ⟨fun m σ H' => ∃ (i : Nat) (y t : List Bool) (u : V) (sf : Option V), σ = [some (.ref d), some u, some (.ref f), sf] ∧ Same H H' ∧ E[i]? = some y ∧ x = y ++ t ∧ Dt H' u (eP (rc M N y)) ∧ H' f = some (.lst (t.reverse.map V.bl)) ∧ m = i,
    ⟨_, i, x, [], u, none, rfl, e1, hx, by rw [List.append_nil], hu.to (same_tup e1), upd_same, rfl⟩, ?_⟩
  have hxl := U.short _ i x (Nat.le_refl _) hx
  have hil := (List.getElem?_eq_some_iff.mp hx).1
  clear hu hx
  rintro m σ H2 ⟨i', y, t, u, sf, rfl, e2, hy, ex, hu, hf, e⟩
  subst e
  have nd2 : ND P w H2 d l := nd.to (same_tup e2) ((e2 _ _ nd.at_).trans nd.at_.symm)
  have C2 := C.to (same_tup e2)
  obtain ⟨a, v, hl, hv⟩ := C2.at_ m y hy
  have ev : valN l (kP (rc M N y)) = some v := valN_of nodup hl
  obtain ⟨ua, us, rfl, hua, hus⟩ := (show Dt H2 u (.tuple [.int ((rc M N y).1 : Int), .int ((rc M N y).2 : Int)]) from hu).tup_inv
  have nk : NK H2 (kP (rc M N y)) ua := ⟨_, hu, rfl, kP_depth _⟩
  refine r_test ⟨.ref d, rfl, .ref ua, rfl, d, l, ua, _, v, rfl, nd2, rfl, nk, ev, rfl, _, rfl, ?_⟩
  rcases hv with ⟨rfl, rfl⟩ | ⟨j, b, z, hz', hji, rfl, hd⟩
  · refine iteF ?_
    have ey : y = [] := by
      have := U.e0
      rw [hy] at this
      exact Option.some.inj this
    subst ey
    have hb : DtA H2 (t.reverse.map V.bl) (t.reverse.map PyData.bool) := DtA.of_bls _
    refine s_ret (f := f0) (ev_tupN (el_rev (evv_var rfl) hf hb f0_no)) fun r H3 e3 hr => q r H3 (e2.trans (le_same e3)) (hr.is ?_)
    rw [ex, ← List.map_reverse, List.reverse_reverse]
    rfl
  · obtain ⟨va, vs', rfl, hva, hvs⟩ := hd.tup_inv
    obtain ⟨w1, w2, rfl, hw1, hw2⟩ := dta2 hvs
    obtain rfl : w1 = .bl b := hw1.bl_eq
    refine iteT ⟨_, fun _ _ h => h, ?_⟩
    refine r_seq (r_asg ⟨.ref d, rfl, .ref ua, rfl, d, l, ua, _, .ref va, rfl, nd2, rfl, nk, ev, va, _, rfl, SqT.of hva, rfl, _, _, rfl, _, _, rfl, rfl, ?_⟩)
    dsimp only
    have tl : t.length ≤ 1000000 := by
      have h1 := congrArg List.length ex
      rw [List.length_append] at h1
      omega
    refine r_drop ⟨.ref f, rfl, .inl ⟨rfl, _, SqL.of hf⟩, .bl b, rfl, f, _, .bl b, rfl, rfl, hf, ?_, j, hji, j, z, b :: t, w2, _, rfl, same_mut e2 nf, hz', by rw [ex]; simp, hw2.to (tle_lst hf), ?_, rfl⟩
    · rw [List.length_map, List.length_reverse, sizeLine_eq]; omega
    · rw [upd_same, List.reverse_cons, List.map_append]
      rfl
/-- the row's side at a standing, by a flag -/
theorem side_at {M : Mach} {i : Nat} (h : i < M.length) (b : Bool) : atI [eSide (ot M i false, go M i false), eSide (ot M i true, go M i true)] (if b = true then 1 else 0) = some (eSide (ot M i b, go M i b)) := by cases b <;> rfl
theorem row_get {M : Mach} {i : Nat} (h : i < M.length) : atI (M.map eRow) ((i : Nat) : Int) = some (.tuple [eSide (ot M i false, go M i false), eSide (ot M i true, go M i true)]) := atI_nat (by rw [List.getElem?_map, row_eq h]; rfl)
theorem ok_unlike_flags (T : Top mg) (A : At K mg "unlike_flags" s_unlike_flags ["one", "other"]) (f_check_machine : Fn P w K mg base 5 "check_machine" ["thing"] sp_check) (f_flags_to : Fn P w K mg base 1 "flags_to" ["came", "pair"] (sp_flags_to P w)) :
    Fn P w K mg base 6 "unlike_flags" ["one", "other"] sp_unlike := by
  refine A.fn c_unlike_flags (fun vs H Q E h => by obtain ⟨M, N, h, _⟩ := h; exact h.length) fun f cdv A outer s H vs Q E hr h => ?_
  obtain ⟨M, N, h, okM, okN, zM, zN, zMN, q⟩ := h
  obtain ⟨v1, v2, rfl, h1, h2⟩ := dta2 h
  refine ⟨_, (pss_cons (ps_expr (pe_fn f_check_machine (hr.mono (by decide)) rfl (pa_cons (pv 0) pa_nil)))
      (pss_cons (ps_expr (pe_fn f_check_machine (hr.mono (by decide)) rfl (pa_cons (pv 1) pa_nil)))
      (pss_cons (ps_set (i := 2) c_unlike_flags.nd rfl (.inl rfl) (peDispN P w rfl rfl hr.units (pe_tup (pa_cons pe_int (pa_cons pe_int pa_nil))) pe_non))
      (pss_cons (ps_set (i := 3) c_unlike_flags.nd rfl (.inl rfl) (pe_lst (pa_cons (pe_tup (pa_cons pe_int (pa_cons pe_int pa_nil))) pa_nil)))
      (pss_cons (ps_set (i := 4) c_unlike_flags.nd rfl (.inl rfl) pe_int)
      (pss_cons (ps_while PassesOwn.never (pt_cmpR op_lt (pv 4) (pe_callB (cl_len K rfl) (by rfl) T.len_ (by decide +kernel) (pa_cons (pv 3) pa_nil)) (nomark _)) (pss_cons (ps_set (i := 5) c_unlike_flags.nd rfl (.inl rfl) (pe_ix (ixL K rfl) (pv 3) (pv 4) (fun _ _ => rfl)))
      (pss_cons (ps_aug (i := 4) c_unlike_flags.nd rfl (.inl rfl) pe_int ip_add)
      (pss_one (ps_for PassesOwn.never rfl (pi_tup (pe_tup (pa_cons pe_bl (pa_cons pe_bl pa_nil)))) (pg_name (i := 6) c_unlike_flags.nd rfl (.inl rfl)) (pss_cons (ps_set (i := 7) c_unlike_flags.nd rfl (.inl rfl) (pe_ix (ixT K rfl) (pe_ix (ixT K rfl) (pv 0) (pe_ix (ixT K rfl) (pv 5) pe_int (fun _ _ => rfl)) (fun _ _ => rfl)) (pe_callTy (cl_int) (by rfl) T.int_ (by decide +kernel) (pa_cons (pv 6) pa_nil)) (fun _ _ => rfl)))
      (pss_cons (ps_set (i := 8) c_unlike_flags.nd rfl (.inl rfl) (pe_ix (ixT K rfl) (pe_ix (ixT K rfl) (pv 1) (pe_ix (ixT K rfl) (pv 5) pe_int (fun _ _ => rfl)) (fun _ _ => rfl)) (pe_callTy (cl_int) (by rfl) T.int_ (by decide +kernel) (pa_cons (pv 6) pa_nil)) (fun _ _ => rfl)))
      (pss_cons (ps_if (pt_cmpR op_ne (pe_ix (ixT K rfl) (pv 7) pe_int (fun _ _ => rfl)) (pe_ix (ixT K rfl) (pv 8) pe_int (fun _ _ => rfl)) (nomark _)) (pss_one (ps_ret (pe_op (opCatA K rfl) (pe_fn f_flags_to (hr.mono (by decide)) rfl (pa_cons (pv 2) (pa_cons (pv 5) pa_nil))) (pe_tup (pa_cons (pv 6) pa_nil))))) pss_nil)
      (pss_cons (ps_set (i := 9) c_unlike_flags.nd rfl (.inl rfl) (pe_tup (pa_cons (pe_ix (ixT K rfl) (pv 7) pe_int (fun _ _ => rfl)) (pa_cons (pe_ix (ixT K rfl) (pv 8) pe_int (fun _ _ => rfl)) pa_nil))))
      (pss_one (ps_if (pt_cmp (pcNinN P w rfl rfl hr.units (pv 9) (pv 2)) (by rfl)) (pss_cons (psPutN P w rfl rfl hr.units (pv 2) (pv 9) (pe_tup (pa_cons (pv 6) (pa_cons (pv 5) pa_nil))) rfl)
      (pss_one (ps_expr (pe_bmK K rfl PySem.F.plainAttrs_list PySem.F.slot_list_append PySem.F.type_list_append (mt_append) (pv 3) (pa_cons (pv 9) pa_nil))))) pss_nil)))))))))))
      (pss_one (ps_ret pe_non)))))))), ?_⟩
  refine s_drop (f := f0) (ev_call (d := .none) (ea_cons (ev_var rfl h1) ea_nil) (fun H1 vs e hv Q r => ⟨M, hv, okM, zM, r⟩) f0_same) fun H1 e1 => ?_
  dsimp only
  refine s_drop (f := f0) (ev_call (d := .none) (ea_cons (ev_var rfl (h2.to e1.tup)) ea_nil) (fun H1 vs e hv Q r => ⟨N, hv, okN, zN, r⟩) f0_same) fun H2 e2 => ?_
  dsimp only
  have s2 : Same H H2 := (le_same e1).trans (le_same e2)
  -- came = {(0, 0): None}
  refine n_set fun c nc => ⟨by show 2 ≤ sizeLine; decide, fun t nt => ?_⟩
  have nc0 : H c = none := s2.free nc
  have tc : t ≠ c := fun e => by rw [e, upd_same] at nt; cases nt
  have h3 : (upd (upd H2 c (NDO P w c [])) t (.tup [.int 0, .int 0])) c = some (NDO P w c []) := by rw [upd_ne (Ne.symm tc)]; exact upd_same
  have s3 : Same H (upd (upd H2 c (NDO P w c [])) t (.tup [.int 0, .int 0])) := (s2.trans (same_new nc)).trans (same_new nt)
  have dt3 : Dt (upd (upd H2 c (NDO P w c [])) t (.tup [.int 0, .int 0])) (.ref t) (eP (rc M N [])) := .tup upd_same (.cons (.int 0) (.cons (.int 0) .nil))
  generalize upd (upd H2 c (NDO P w c [])) t (.tup [.int 0, .int 0]) = H3 at *
  have nk3 : NK H3 (kP (rc M N [])) t := ⟨_, dt3, rfl, kP_depth _⟩
  refine ⟨t, _, rfl, nk3, h3, ?_⟩
  have nd4 : ND P w (upd H3 c (NDO P w c [(kP (rc M N []), t, .non)])) c [(kP (rc M N []), t, .non)] := ND.snoc (l := []) ⟨h3, fun _ z => nomatch z⟩ nk3
  have s4 : Same H (upd H3 c (NDO P w c [(kP (rc M N []), t, .non)])) := same_mut s3 nc0
  generalize upd H3 c (NDO P w c [(kP (rc M N []), t, .non)]) = H4 at *
  -- waiting = [(0, 0)]
  refine n_set ⟨by show 2 ≤ sizeLine; decide, fun t2 nt2 => ⟨by show 1 ≤ sizeLine; decide, fun wl nw => ?_⟩⟩
  have s5 : Same H (upd H4 t2 (.tup [.int 0, .int 0])) := s4.trans (same_new nt2)
  have nd5 := nd4.to (TLe.new (o := .tup [.int 0, .int 0]) nt2) (upd_ne (ne_of_none nd4.at_ nt2))
  have dt5 : Dt (upd H4 t2 (.tup [.int 0, .int 0])) (.ref t2) (eP (rc M N [])) := .tup upd_same (.cons (.int 0) (.cons (.int 0) .nil))
  generalize upd H4 t2 (.tup [.int 0, .int 0]) = H5 at *
  have nw0 : H wl = none := s5.free nw
  have cw : c ≠ wl := ne_of_none nd5.at_ nw
  have s6 : Same H (upd H5 wl (.lst [.ref t2])) := s5.trans (same_new nw)
  have nd6 := nd5.to (TLe.new (o := .lst [.ref t2]) nw) (upd_ne cw)
  have dt6 := dt5.to (TLe.new (o := .lst [.ref t2]) nw)
  have hw6 : (upd H5 wl (.lst [.ref t2])) wl = some (.lst [.ref t2]) := upd_same
  generalize upd H5 wl (.lst [.ref t2]) = H6 at *
  clear dt5 nd5 s5 nd4 s4 nk3 dt3 s3 h3 nt nt2 nc nw
  -- at = 0
  refine n_set ?_
  refine n_while ⟨fun m σ H' => ∃ (a : Nat) (l : NL) (wv : List V) (E : List (List Bool)) (x5 x6 x7 x8 x9 : Option V), σ = [some v1, some v2, some (.ref c), some (.ref wl), some (.int (a : Int)), x5, x6, x7, x8, x9] ∧ Same H H' ∧ ND P w H' c l ∧ H' wl = some (.lst wv) ∧ DtA H' wv (E.map fun x => eP (rc M N x)) ∧
      CInv M N H' l E ∧ UInv M N E (2 * a) ∧ a ≤ E.length ∧ m = M.length * N.length - a,
    ⟨_, 0, _, [.ref t2], [[]], none, none, none, none, none, rfl, s6, nd6, hw6, .cons dt6 .nil, ⟨rfl, fun i x hx => ?_⟩, UInv.init M N, Nat.zero_le _, rfl⟩, ?_⟩
  · have hi := (List.getElem?_eq_some_iff.mp hx).1
    have e : i = 0 := by simp at hi; exact hi
    subst e
    have e : [] = x := Option.some.inj hx
    subst e
    exact ⟨t, .non, rfl, .inl ⟨rfl, rfl⟩⟩
  clear dt6 hw6 nd6 s6 s2 e2 e1 tc
  rintro m σ H7 ⟨a, l, wv, E, x5, x6, x7, x8, x9, rfl, s7, nd7, hw7, hwv7, C7, U7, ale, em⟩
  have few := U7.few okM okN
  have lwv : wv.length = E.length := by rw [hwv7.length, List.length_map]
  refine et_test (f := f0) (ev_ib (ev_var rfl (.int (a : Int))) (ev_lenL (evv_var rfl) hw7 (fun z => z))) H7 (Le.refl _) _ fun H8 e8 => ?_
  have s8 : Same H H8 := s7.trans (le_same e8)
  have nd8 := nd7.to e8.tup ((le_same e8 _ _ nd7.at_).trans nd7.at_.symm)
  have hw8 := le_same e8 _ _ hw7
  have hwv8 := hwv7.to e8.tup
  have C8 := C7.to e8.tup
  clear C7 hwv7 hw7 nd7 s7
  rw [lwv]
  by_cases hlt : a < E.length
  · rw [decide_eq_true (show (a : Int) < (E.length : Int) by omega)]
    refine iteT ⟨_, fun _ _ h => h, ?_⟩
    obtain ⟨u, hu⟩ : ∃ u, E[a]? = some u := ⟨E[a], by simp [hlt]⟩
    have hwa : (E.map fun x => eP (rc M N x))[a]? = some (eP (rc M N u)) := by rw [List.getElem?_map, hu]; rfl
    have li : rn M 0 u < M.length := okM.rn_lt u 0 okM.pos
    have lj : rn N 0 u < N.length := okN.rn_lt u 0 okN.pos
    -- pair = waiting[at]; at += 1
    refine s_asg (f := f0) (ev_ixL (evv_var rfl) hw8 (fun z => z) hwv8 (ev_var rfl (.int (a : Int))) (atI_nat hwa)) fun pv H9 e9 hp9 => ?_
    refine r_seq ⟨.int (a : Int), rfl, _, _, rfl, rfl, ?_⟩
    have e10 : Le f0 H8 H9 := e9
    have s9 : Same H H9 := s8.trans (le_same e9)
    have nd9 := nd8.to e9.tup ((le_same e9 _ _ nd8.at_).trans nd8.at_.symm)
    have hw9 := le_same e9 _ _ hw8
    have hwv9 := hwv8.to e9.tup
    have C9 := C8.to e9.tup
    clear C8 hwv8 hw8 nd8
    -- for flag in (False, True)
    dsimp only
    refine ⟨by show 2 ≤ sizeLine; decide, fun tf ntf => ⟨tf, rfl, ⟨_, SqT.of upd_same⟩, ?_⟩⟩
    have s10 : Same H (upd H9 tf (.tup [.bl false, .bl true])) := s9.trans (same_new ntf)
    have t10 : TLe H9 (upd H9 tf (.tup [.bl false, .bl true])) := TLe.new ntf
    have nd10 := nd9.to t10 (upd_ne (ne_of_none nd9.at_ ntf))
    have hw10 : (upd H9 tf (.tup [.bl false, .bl true])) wl = some (.lst wv) := by rw [upd_ne (ne_of_none hw9 ntf)]; exact hw9
    have hf10 : (upd H9 tf (.tup [.bl false, .bl true])) tf = some (.tup [.bl false, .bl true]) := upd_same
    have hwv10 := hwv9.to t10
    have C10 := C9.to t10
    have hp10 := hp9.to t10
    generalize upd H9 tf (.tup [.bl false, .bl true]) = H10 at *
    clear C9 hwv9 hw9 nd9 hp9 t10 ntf
    refine for_tup (xs := [.bl false, .bl true]) (fun i σ' H' => ∃ (l : NL) (wv : List V) (E' : List (List Bool)) (x6 x7 x8 x9 : Option V), σ' = [some v1, some v2, some (.ref c), some (.ref wl), some (.int ((a : Int) + 1)), some pv, x6, x7, x8, x9] ∧ Same H H' ∧ ND P w H' c l ∧ H' wl = some (.lst wv) ∧
        DtA H' wv (E'.map fun x => eP (rc M N x)) ∧ CInv M N H' l E' ∧ UInv M N E' (2 * a + i) ∧ E'[a]? = some u ∧ H' tf = some (.tup [.bl false, .bl true]) ∧ Dt H' pv (eP (rc M N u)))
      ⟨l, wv, E, x6, x7, x8, x9, rfl, s10, nd10, hw10, hwv10, C10, U7, hu, hf10, hp10⟩ (fun i σ' H' _ h => by obtain ⟨_, _, _, _, _, _, _, _, _, _, _, _, _, _, _, h, _⟩ := h; exact SqT.of h) (fun i bx σ' H11 hbx h => ?_) fun σ' H11 h => ?_
    · obtain ⟨l', wv', E', y6, y7, y8, y9, rfl, s11, nd11, hw11, hwv11, C11, U11, hu11, hf11, hp11⟩ := h
      obtain ⟨b, rfl, hib⟩ : ∃ b : Bool, bx = .bl b ∧ i = b.toNat := by
        have hi := (List.getElem?_eq_some_iff.mp hbx).1
        have hi2 : i = 0 ∨ i = 1 := by simp at hi; omega
        rcases hi2 with rfl | rfl
        · exact ⟨false, (Option.some.inj hbx).symm, rfl⟩
        · exact ⟨true, (Option.some.inj hbx).symm, rfl⟩
      subst hib
      have few' := U11.few okM okN
      have dp : Dt H11 pv (.tuple [.int ((rn M 0 u : Nat) : Int), .int ((rn N 0 u : Nat) : Int)]) := hp11
      have d1 : Dt H11 v1 (.tuple (M.map eRow)) := h1.to (same_tup s11)
      have d2 : Dt H11 v2 (.tuple (N.map eRow)) := h2.to (same_tup s11)
      -- mine, its
      refine s_asg (f := f0) (ev_ixT (ev_ixT (ev_var rfl d1) (ev_ixT (ev_var rfl dp) ev_int rfl) (row_get li)) (ev_intB (ev_var rfl (.bl b))) (side_at li b)) fun m1 H12 e12 hm1 => ?_
      have d2' := d2.to e12.tup
      have dp' := dp.to e12.tup
      refine s_asg (f := f0) (ev_ixT (ev_ixT (ev_var rfl d2') (ev_ixT (ev_var rfl dp') ev_int rfl) (row_get lj)) (ev_intB (ev_var rfl (.bl b))) (side_at lj b)) fun m2 H13 e13 hm2 => ?_
      have hm1' : Dt H13 m1 (.tuple [.bool (ot M (rn M 0 u) b), .int ((go M (rn M 0 u) b : Nat) : Int)]) := hm1.to e13.tup
      have hm2' : Dt H13 m2 (.tuple [.bool (ot N (rn N 0 u) b), .int ((go N (rn N 0 u) b : Nat) : Int)]) := hm2
      have e113 := e12.trans e13
      have s13 : Same H H13 := s11.trans (le_same e113)
      have nd13 := nd11.to e113.tup ((le_same e113 _ _ nd11.at_).trans nd11.at_.symm)
      have hw13 := le_same e113 _ _ hw11
      have hwv13 := hwv11.to e113.tup
      have C13 := C11.to e113.tup
      have hf13 := le_same e113 _ _ hf11
      have hp13 := hp11.to e113.tup
      clear hp11 hf11 C11 hwv11 hw11 nd11 d1 d2 d2' dp dp' hm1 hm2
      dsimp only
      refine n_when (et_test (f := f0) (ev_neB (ev_ixT (ev_var rfl hm1') ev_int rfl) (ev_ixT (ev_var rfl hm2') ev_int rfl)) H13 (Le.refl _) _ fun H14 e14 => ?_)
      have s14 : Same H H14 := s13.trans (le_same e14)
      have nd14 := nd13.to e14.tup ((le_same e14 _ _ nd13.at_).trans nd13.at_.symm)
      have hw14 := le_same e14 _ _ hw13
      have hwv14 := hwv13.to e14.tup
      have C14 := C13.to e14.tup
      have hf14 := le_same e14 _ _ hf13
      have hp14 := hp13.to e14.tup
      have g1 := hm1'.to e14.tup
      have g2 := hm2'.to e14.tup
      clear hp13 hf13 C13 hwv13 hw13 nd13 hm1' hm2'
      by_cases hne : ot M (rn M 0 u) b = ot N (rn N 0 u) b
      · rw [hne, beq_self_eq_true]
        refine iteF ?_
        -- there = (mine[1], its[1])
        refine s_asg (f := f0) (ev_tup (ea_cons (ev_ixT (ev_var rfl g1) ev_int rfl) (ea_cons (ev_ixT (ev_var rfl g2) ev_int rfl) ea_nil))) fun tv H15 e15 ht => ?_
        have s15 : Same H H15 := s14.trans (le_same e15)
        have nd15 := nd14.to e15.tup ((le_same e15 _ _ nd14.at_).trans nd14.at_.symm)
        have hw15 := le_same e15 _ _ hw14
        have hwv15 := hwv14.to e15.tup
        have C15 := C14.to e15.tup
        have hf15 := le_same e15 _ _ hf14
        have hp15 := hp14.to e15.tup
        clear hp14 hf14 C14 hwv14 hw14 nd14 g1 g2
        have et : rc M N (u ++ [b]) = (go M (rn M 0 u) b, go N (rn N 0 u) b) := by unfold rc; rw [rn_snoc, rn_snoc]
        have ht' : Dt H15 tv (eP (rc M N (u ++ [b]))) := by rw [et]; exact ht
        obtain ⟨ta, ts, rfl, hta, hts⟩ := (show Dt H15 tv (.tuple _) from ht').tup_inv
        have nk15 : NK H15 (kP (rc M N (u ++ [b]))) ta := ⟨_, ht', rfl, kP_depth _⟩
        dsimp only
        refine r_if ⟨.ref ta, rfl, .ref c, rfl, c, l', ta, _, rfl, nd15, rfl, nk15, _, rfl, ?_⟩
        cases ev : valN l' (kP (rc M N (u ++ [b]))) with
        | some z =>
          refine iteF ?_
          obtain ⟨k, y, hy, ey⟩ := C15.has ev
          exact ⟨l', wv', E', _, _, _, _, rfl, s15, nd15, hw15, hwv15, C15, U11.seen rfl hu11 hne hy ey, hu11, hf15, hp15⟩
        | none =>
          refine iteT ?_
          have hll := C15.len
          -- came[there] = (flag, pair)
          refine r_seq ⟨.bl b, rfl, pv, rfl, by show 2 ≤ sizeLine; decide, fun tt ntt => ⟨.ref c, rfl, .ref ta, rfl, c, l', ta, kP (rc M N (u ++ [b])), rfl, ?_, rfl, nk15.to (TLe.new ntt), ev, by rw [sizeLine_eq]; omega, ?_⟩⟩
          · exact nd15.to (TLe.new ntt) (upd_ne (ne_of_none nd15.at_ ntt))
          have e16 : Le f0 H15 (upd H15 tt (.tup [.bl b, pv])) := Le.new ntt
          have nd16 := nd15.to e16.tup ((le_same e16 _ _ nd15.at_).trans nd15.at_.symm)
          have nk16 := nk15.to e16.tup
          have dt16 : Dt (upd H15 tt (.tup [.bl b, pv])) (.ref tt) (.tuple [.bool b, eP (rc M N u)]) := .tup upd_same (.cons (.bl b) (.cons (hp15.to e16.tup) .nil))
          have s16 : Same H (upd H15 tt (.tup [.bl b, pv])) := s15.trans (le_same e16)
          have hw16 := le_same e16 _ _ hw15
          have hwv16 := hwv15.to e16.tup
          have C16 := C15.to e16.tup
          have hf16 := le_same e16 _ _ hf15
          have hp16 := hp15.to e16.tup
          have ht16 := ht'.to e16.tup
          generalize upd H15 tt (.tup [.bl b, pv]) = H16 at *
          have nd17 := nd16.snoc (v := .ref tt) nk16
          have t17 : TLe H16 (upd H16 c (NDO P w c (l' ++ [(kP (rc M N (u ++ [b])), ta, .ref tt)]))) := TLe.set nd16.at_ fun _ z => by cases z
          have hw17 : (upd H16 c (NDO P w c (l' ++ [(kP (rc M N (u ++ [b])), ta, .ref tt)]))) wl = some (.lst wv') := by rw [upd_ne (Ne.symm cw)]; exact hw16
          have s17 : Same H (upd H16 c (NDO P w c (l' ++ [(kP (rc M N (u ++ [b])), ta, .ref tt)]))) := same_mut s16 nc0
          have hf17 := t17 _ _ hf16
          generalize upd H16 c (NDO P w c (l' ++ [(kP (rc M N (u ++ [b])), ta, .ref tt)])) = H17 at *
          -- waiting.append(there)
          have lw := hwv16.length
          rw [List.length_map] at lw
          dsimp only
          refine r_drop ⟨.ref wl, rfl, .inl ⟨rfl, _, SqL.of hw17⟩, .ref ta, rfl, wl, wv', .ref ta, rfl, rfl, hw17, by rw [sizeLine_eq]; omega, ?_⟩
          have t18 := tle_lst (o := .lst (wv' ++ [.ref ta])) hw17
          have tt18 := t17.trans t18
          refine ⟨_, wv' ++ [.ref ta], E' ++ [u ++ [b]], _, _, _, _, rfl, same_mut s17 nw0, nd17.to t18 (upd_ne cw), upd_same, ?_, (C16.snoc hu11 dt16).to tt18, U11.more rfl hu11 hne (C16.hasnt ev), at_app hu11, t18 _ _ hf17, hp16.to tt18⟩
          rw [List.map_append]
          exact (hwv16.to tt18).snoc (ht16.to tt18)
      · have hne' : (!(ot M (rn M 0 u) b == ot N (rn N 0 u) b)) = true := by
          rw [beq_eq_false_iff_ne.mpr hne]; rfl
        rw [hne']
        refine iteT ?_
        dsimp only
        have fnd := U11.found rfl hu11 hne
        have sh := U11.short a a u (Nat.le_refl _) hu11
        have ual := (List.getElem?_eq_some_iff.mp hu11).1
        refine s_ret (f := f0) (ev_catT (ds := u.map PyData.bool) (es := [.bool b]) (fun H15 e15 Q' q' => ?_) (ev_tup (ea_cons (ev_var rfl (.bl b)) ea_nil)) (by rw [List.length_map, List.length_singleton]; omega)) fun r H15 e15 hr => ?_
        · have nd15 := nd14.to e15.tup ((le_same e15 _ _ nd14.at_).trans nd14.at_.symm)
          exact r_call2 ⟨.ref c, rfl, pv, rfl, M, N, c, l', E', _, a, u, pv, rfl, nd15, C14.to e15.tup, U11, hu11, hp14.to e15.tup, by omega, fun v H16 s16 hv => q' v H16 (same_le s16) hv⟩
        · refine q (some (u ++ [b])) r H15 (s14.trans (le_same e15)) fnd (fun x hx => ?_) (hr.is ?_)
          · rw [← Option.some.inj hx, List.length_append, List.length_singleton]
            omega
          · show _ = PyData.tuple ((u ++ [b]).map PyData.bool)
            rw [List.map_append]
            rfl
    · obtain ⟨l', wv', E', y6, y7, y8, y9, rfl, s11, nd11, hw11, hwv11, C11, U11, hu11, hf11, hp11⟩ := h
      have few' := U11.few okM okN
      have ual := (List.getElem?_eq_some_iff.mp hu11).1
      refine ⟨M.length * N.length - (a + 1), by omega, a + 1, l', wv', E', _, _, _, _, _, rfl, s11, nd11, hw11, hwv11, C11, ?_, ual, rfl⟩
      have e : 2 * a + [V.bl false, V.bl true].length = 2 * (a + 1) := by show 2 * a + 2 = _; omega
      rw [← e]
      exact U11
  · rw [decide_eq_false (show ¬ (a : Int) < (E.length : Int) by omega)]
    refine iteF ?_
    dsimp only
    exact r_ret (q none .non H8 s8 (U7.done (by omega)) (fun x hx => nomatch hx) .non)
end
end K13
/-! K13F: a list or a tuple alike; is_listed, shown_by. -/
namespace KM
/-- what is shown by the way -/
def shw (M : Mach) : Nat → List Bool → List Bool
  | _, [] => []
  | i, b :: t => ot M i b :: shw M (go M i b) t
theorem shw_snoc (M : Mach) (b : Bool) : ∀ (u : List Bool) (i : Nat), shw M i (u ++ [b]) = shw M i u ++ [ot M (rn M i u) b]
  | [], i => rfl
  | c :: u, i => by
    show ot M i c :: shw M (go M i c) (u ++ [b]) = _
    rw [shw_snoc M b u]
    rfl
theorem shw_len (M : Mach) : ∀ (u : List Bool) (i : Nat), (shw M i u).length = u.length
  | [], _ => rfl
  | _ :: u, i => by
    show (shw M _ u).length + 1 = u.length + 1
    rw [shw_len M u]
end KM
namespace K13
open PySem PySem.Spec PyProof.Rows L2 KM
/-- an object that is a list, or a tuple -/
def sqO (k : Bool) (us : List V) : HO := if k = true then .lst us else .tup us
def iSeq (K : PySem.W.Frag) (tl : TE) : TI := fun σ H R => tl σ H fun x H1 => ∃ a, x = .ref a ∧ (((∃ xs, SqL K H1 a xs) ∧ R (Itl K a) H1) ∨ ((∃ xs, SqT K H1 a xs) ∧ R (Itt K a) H1))
theorem pi_seq (K : PySem.W.Frag) {X : Cx} {tg l : Expr} {tl : TE} (hK : X.K = K) (hl : PE X l tl) : PI X tg l (iSeq K tl) := by
  subst hK
  refine ⟨fun pins s σ H R I h => ?_⟩
  refine thn (hl.run pins s σ H _ I h) fun v s1 ⟨x, H1, I1, r1, q1⟩ => ?_
  obtain ⟨a, e, q1⟩ := q1
  subst e
  cases r1
  rcases q1 with ⟨⟨xs, hq⟩, q⟩ | ⟨⟨xs, hq⟩, q⟩
  · obtain ⟨its, rv, p, hz⟩ := I1.list hq
    refine wpAny_pyIter_list p.isList ?_
    refine ⟨s1.heap.objs.size, [s1.heap.objs.size], _, _, H1, rfl, I1.kept (t' := s1.toks) fun b o e => Heap.get?_push_of_some _ e, turn_list a _, ⟨_, Heap.get?_push_size _ rfl, rfl, rfl⟩, fun b hb => ?_, q⟩
    obtain rfl : b = s1.heap.objs.size := by simpa using hb
    exact I1.fpOk (Nat.le_refl _) (I1.hok.fresh (Nat.le_refl _))
  · obtain ⟨its, rv, p, hz⟩ := I1.tuple hq
    refine wpAny_pyIter_tuple (show s1.heap.IsTuple a its.toArray from p) ?_
    refine ⟨s1.heap.objs.size, [s1.heap.objs.size], _, _, H1, rfl, I1.kept (t' := s1.toks) fun b o e => Heap.get?_push_of_some _ e, turn_tuple a _, ⟨_, Heap.get?_push_size _ rfl, rfl, rfl⟩, fun b hb => ?_, q⟩
    obtain rfl : b = s1.heap.objs.size := by simpa using hb
    exact I1.fpOk (Nat.le_refl _) (I1.hok.fresh (Nat.le_refl _))
section
variable {K : PySem.W.Frag} {a : Addr} {us : List V} {k : Bool} {f : Fx} {σ : L2.St} {H : Hp} {tl te : TE} {ws : List Nat} {α : Type}
theorem sq_cases (h : H a = some (sqO k us)) : (k = true ∧ H a = some (.lst us)) ∨ (k = false ∧ H a = some (.tup us)) := by
  cases k
  · exact .inr ⟨rfl, h⟩
  · exact .inl ⟨rfl, h⟩
/-- a for over either -/
theorem for_sq {g : TG} {tb : TS} {D : Ends} (hl : EvV f0 tl σ H (.ref a)) (h : H a = some (sqO k us)) (w : ∀ J, Walk J us.length (fun H => H a = some (sqO k us)) (YAt us) → ∀ H1, Le f0 H H1 → tFor (fun _ H R => R J H) g tb D σ H1) : tFor (iSeq K tl) g tb D σ H :=
  hl H (Le.refl _) _ fun H1 e1 => by
    have h1 : H1 a = some (sqO k us) := e1.keep _ _ (fun z => z) h
    refine ⟨a, rfl, ?_⟩
    cases k with
    | false => exact .inr ⟨⟨us, SqT.of h1⟩, w _ (walk_tup.mono (fun H q => SqT.of q) fun _ _ _ _ _ _ y => y) H1 e1⟩
    | true => exact .inl ⟨⟨us, SqL.of h1⟩, w _ (walk_list.mono (fun H q => SqL.of q) fun _ _ _ _ _ _ y => y) H1 e1⟩
/-- [e for x in l], l a list or a tuple that stands -/
theorem el_mapS1 {j : Nat} (xs : List α) (enc : α → PyData) (F : α → PyData) (hl : EvV f tl σ H (.ref a)) (hL : H a = some (sqO k us)) (hu : DtA H us (xs.map enc)) (hB : ∀ q, ¬ f.B q) (hsz : xs.length ≤ 1000000)
    (hw : ∀ v, wipe ((wipe σ ws).set j (some v)) ws = wipe σ ws)
    (turn : ∀ x ∈ xs, ∀ v H1, Le f H H1 → Dt H1 v (enc x) → EvD f te ((wipe σ ws).set j (some v)) H1 (F x)) :
    EvL f (tLc (iSeq K tl) (gName j) tYes te ws) σ H (xs.map F) := fun H0 e0 Q q => hl H0 e0 _ fun H1 e1 => by
  have e01 := e0.trans e1
  have h1 : H1 a = some (sqO k us) := e01.keep _ _ (hB a) hL
  refine ⟨a, rfl, ?_⟩
  suffices main : ∀ J, Walk J us.length (fun H => H a = some (sqO k us)) (YAt us) → tLc (fun _ H R => R J H) (gName j) tYes te ws σ H1 Q by
    cases k with
    | false => exact .inr ⟨⟨us, SqT.of h1⟩, main _ (walk_tup.mono (fun H q => SqT.of q) fun _ _ _ _ _ _ y => y)⟩
    | true => exact .inl ⟨⟨us, SqL.of h1⟩, main _ (walk_list.mono (fun H q => SqL.of q) fun _ _ _ _ _ _ y => y)⟩
  intro J w D hD
  refine lc_turns w xs (by rw [hu.length, List.length_map]) hB (fun _ => true) F hsz hD (Le.refl H1) (fun H2 e => e.keep _ _ (hB a) h1) (fun i x hx v H2 H3 e12 y => ?_)
    fun vs H2 e12 hp hvs => q D vs H2 (e1.trans e12) (e1.back (hB D) hD) hp (by rw [flt_true] at hvs; exact hvs)
  obtain ⟨rfl, hv⟩ := y
  obtain ⟨d, hd, hdt⟩ := hu.get' hv
  rw [List.getElem?_map, hx] at hd
  have ed : enc x = d := Option.some.inj hd
  subst ed
  have t1 := turn x (List.mem_of_getElem? hx) v H3 (e01.trans e12) (hdt.to (e01.trans e12).tup)
  exact ⟨_, fun R hR => hR H3 (Le.refl _), Le.refl _, hw v, et_yes, fun _ => t1⟩
theorem ev_lenS (h : EvV f te σ H (.ref a)) (hl : H a = some (sqO k us)) (hB : ¬ f.B a) : EvD f (tCB (rLenQ K) (tCons te tNil)) σ H (.int (us.length : Int)) := fun H1 e1 Q q =>
  h H1 e1 _ fun H2 e2 => by
    have h2 := (e1.trans e2).keep _ _ hB hl
    refine ⟨a, us, rfl, ?_, q _ H2 e2 (.int _)⟩
    rcases sq_cases h2 with ⟨_, h2⟩ | ⟨_, h2⟩
    · exact .inl (SqL.of h2)
    · exact .inr (SqT.of h2)
end
theorem kit_lt {K : PySem.W.Frag} (k : Bool) : PySem.W.kitAny K (.type (if k = true then "list" else "tuple")) [.type "list", .type "tuple"] = some true := by
  cases k with
  | true =>
    show PySem.W.kitAny K (.type "list") [.type "list", .type "tuple"] = some true
    unfold PySem.W.kitAny
    rw [kit_ty k_list_list]
  | false =>
    show PySem.W.kitAny K (.type "tuple") [.type "list", .type "tuple"] = some true
    unfold PySem.W.kitAny
    rw [kit_ty k_tuple_list]
    show PySem.W.kitAny K (.type "tuple") [.type "tuple"] = some true
    unfold PySem.W.kitAny
    rw [kit_ty k_tuple_tuple]
theorem EvD.run {f : Fx} {te : TE} {σ : L2.St} {H : Hp} {d : PyData} {Q : VK} (h : EvD f te σ H d) (k : ∀ v H1, Le f H H1 → Dt H1 v d → Q v H1) : te σ H Q := h H (Le.refl _) Q k
def sp_listed : Sp := fun vs H Q _ => ∃ (a : Addr) (k : Bool) (us : List V), vs = [.ref a] ∧ H a = some (sqO k us) ∧ RetD H Q (.bool true)
def sp_shown : Sp := fun vs H Q _ => ∃ (M : Mach) (v : V) (a : Addr) (k : Bool) (x : List Bool), vs = [v, .ref a] ∧ Dt H v (eM M) ∧ H a = some (sqO k (x.map V.bl)) ∧ Ok M ∧ M.length ≤ 1000000 ∧ x.length ≤ 2000 ∧ RetD H Q (eW (shw M 0 x))
section
variable {P : Program} {w : World} {K : PySem.W.Frag} {mg : Str → Option Value} {base : Heap}
theorem ok_is_listed (T : Top mg) (A : At K mg "is_listed" s_is_listed ["thing"]) : Fn P w K mg base 1 "is_listed" ["thing"] sp_listed := by
  refine A.fn c_is_listed (fun vs H Q E h => by obtain ⟨a, k, us, rfl, _⟩ := h; rfl) fun f cdv A outer s H vs Q E hr h => ?_
  obtain ⟨a, k, us, rfl, ha, q⟩ := h
  refine ⟨_, (pss_one (ps_ret (pe_callB (cl_isiT K rfl) (by rfl) T.isinstance_ (by decide +kernel) (pa_cons (pv 0) (pa_cons (pe_tup (pa_cons (pe_bltn (v := .ty "list") (by rfl) T.list_ (by decide +kernel) rfl) (pa_cons (pe_bltn (v := .ty "tuple") (by rfl) T.tuple_ (by decide +kernel) rfl) pa_nil))) pa_nil))))), ?_⟩
  refine r_ret ⟨_, rfl, by show 2 ≤ sizeLine; decide, fun tp ntp => ⟨.ref a, tp, [.ty "list", .ty "tuple"], .type (if k = true then "list" else "tuple"), [.type "list", .type "tuple"], true, rfl, upd_same, .cons (.ty _) (.cons (.ty _) .nil), ?_, kit_lt k, q _ _ (same_new ntp) (.bl true)⟩⟩
  have h2 : (upd H tp (.tup [.ty "list", .ty "tuple"])) a = some (sqO k us) := by rw [upd_ne (ne_of_none ha ntp)]; exact ha
  rcases sq_cases h2 with ⟨rfl, h2⟩ | ⟨rfl, h2⟩
  · exact .base (.lst h2)
  · exact .base (.tup h2)
theorem ok_shown_by (T : Top mg) (A : At K mg "shown_by" s_shown_by ["told", "flags"]) (f_check_machine : Fn P w K mg base 5 "check_machine" ["thing"] sp_check) (f_is_listed : Fn P w K mg base 1 "is_listed" ["thing"] sp_listed) (f_is_flag : Fn P w K mg base 1 "is_flag" ["thing"] sp_is_flag) :
    Fn P w K mg base 6 "shown_by" ["told", "flags"] sp_shown := by
  refine A.fn c_shown_by (fun vs H Q E h => by obtain ⟨M, v, a, k, x, rfl, _⟩ := h; rfl) fun f cdv A outer s H vs Q E hr h => ?_
  obtain ⟨M, v, a, k, x, rfl, h1, ha, okM, zM, zx, q⟩ := h
  obtain ⟨tk, g_MOST_FLAGS⟩ := T.MOST_FLAGS
  refine ⟨_, (pss_cons (ps_expr (pe_fn f_check_machine (hr.mono (by decide)) rfl (pa_cons (pv 0) pa_nil)))
      (pss_cons (ps_if (PW.pt (pw_or (pt_not (pt_val (pe_fn f_is_listed (hr.mono (by decide)) rfl (pa_cons (pv 1) pa_nil)))) (pw_or (pt_cmpR op_gt (pe_callB (cl_len K rfl) (by rfl) T.len_ (by decide +kernel) (pa_cons (pv 1) pa_nil)) (pe_glob (v := .int 2000) (by rfl) g_MOST_FLAGS ⟨_, rfl⟩) (nomark _)) (pw_or1 (pt_not (pt_val (pe_callB (cl_all K rfl rfl) (by rfl) T.all_ (by decide +kernel) (pa_cons (pe_lc (own := [("flag", 2)]) (g := gName 2) (tt := tYes) rfl c_shown_by.nd (pi_seq K rfl (pv 1)) (blkOk_by (own := [("flag", 2)]) (N := n_shown_by) (sc := defScope s_shown_by) (by decide +kernel)) (fun _ _ _ _ _ => (pg_name (i := 2) c_shown_by.nd rfl (.inl rfl))) (fun _ _ _ _ _ => pts_nil) (fun _ _ _ _ _ => (pe_fn f_is_flag (hr.mono (by decide)) rfl (pa_cons (pv 2) pa_nil)))) pa_nil)))))))) pss_never pss_nil)
      (pss_cons (ps_set (i := 3) c_shown_by.nd rfl (.inl rfl) pe_int)
      (pss_cons (ps_set (i := 4) c_shown_by.nd rfl (.inl rfl) (pe_lst pa_nil))
      (pss_cons (ps_for PassesOwn.never rfl (pi_seq K rfl (pv 1)) (pg_name (i := 2) c_shown_by.nd rfl (.inl rfl)) (pss_cons (ps_asg (pe_ix (ixT K rfl) (pe_ix (ixT K rfl) (pv 0) (pv 3) (fun _ _ => rfl)) (pe_callTy (cl_int) (by rfl) T.int_ (by decide +kernel) (pa_cons (pv 2) pa_nil)) (fun _ _ => rfl)) (pg_tup rfl (pgs_cons (pg_name (i := 5) c_shown_by.nd rfl (.inl rfl)) (pgs_cons (pg_name (i := 3) c_shown_by.nd rfl (.inl rfl)) pgs_nil))))
      (pss_one (ps_expr (pe_bmK K rfl PySem.F.plainAttrs_list PySem.F.slot_list_append PySem.F.type_list_append (mt_append) (pv 4) (pa_cons (pv 5) pa_nil))))))
      (pss_one (ps_ret (pe_callTy (cl_tuple K rfl) (by rfl) T.tuple_ (by decide +kernel) (pa_cons (pv 4) pa_nil))))))))), ?_⟩
  refine s_drop (f := f0) (ev_call (d := .none) (ea_cons (ev_var rfl h1) ea_nil) (fun H1 vs e hv Q r => ⟨M, hv, okM, zM, r⟩) f0_same) fun H1 e1 => ?_
  dsimp only
  have s1 := le_same e1
  have ha1 := e1.keep _ _ (fun z => z) ha
  have tx : x.all (fun _ => true) = true := List.all_eq_true.mpr fun _ _ => rfl
  refine n_when (EvT.is (c := false) (et_or (et_not (et_B (fun H2 e2 Q q => ⟨_, rfl, a, k, _, rfl, e2.keep _ _ (fun z => z) ha1, fun v H' s hv => q v H' (same_le s) hv⟩))) fun _ => et_or (et_test (ev_ib (ev_lenS (evv_var rfl) ha1 (fun z => z)) (fun H2 e2 Q q => q _ H2 (Le.refl _) (.int 2000)))) fun _ => et_not (et_B (ev_all' (p := fun _ => true) (xs := x)
    (el_mapS1 x PyData.bool _ (evv_var rfl) ha1 (DtA.of_bls x) f0_no (by omega) (fun _ => rfl) fun y hy v H2 e hv => ev_call (d := .bool true) (ea_cons (ev_var rfl hv) ea_nil) (fun H1 vs e hv Q r => ⟨.bool y, hv, r⟩) f0_same))))
    (by rw [tx, List.length_map]; show (!true || (decide ((x.length : Int) > 2000) || !true)) = false; simp; omega) H1 (Le.refl _) _ fun H2 e2 => ?_)
  refine iteF ?_
  have h2 := h1.to (e1.trans e2).tup
  have ha2 := e2.keep _ _ (fun z => z) ha1
  have s2 := s1.trans (le_same e2)
  -- standing = 0, found = []
  refine n_set (n_set ⟨by show 0 ≤ sizeLine; exact Nat.zero_le _, fun fd nf => ?_⟩)
  have nf0 : H fd = none := s2.free nf
  have fa : a ≠ fd := ne_of_none ha2 nf
  have h3 := h2.to (TLe.new (o := .lst []) nf)
  have ha3 : (upd H2 fd (.lst [])) a = some (sqO k (x.map V.bl)) := by rw [upd_ne fa]; exact ha2
  have s3 : Same H (upd H2 fd (.lst [])) := s2.trans (same_new nf)
  have hf3 : (upd H2 fd (.lst [])) fd = some (.lst []) := upd_same
  generalize upd H2 fd (.lst []) = H3 at *
  refine n_for (for_sq (evv_var rfl) ha3 fun J wk H4 e4 => ?_)
  have s4 := s3.trans (le_same e4)
  have ha4 := e4.keep _ _ (fun z => z) ha3
  have h4 := h3.to e4.tup
  have hf4 := e4.keep _ _ (fun z => z) hf3
  refine for_it wk (fun i σ' H' => ∃ x2 x5, σ' = [some v, some (.ref a), x2, some (.int ((rn M 0 (x.take i) : Nat) : Int)), some (.ref fd), x5] ∧ Same H H' ∧ Dt H' v (eM M) ∧ H' a = some (sqO k (x.map V.bl)) ∧ H' fd = some (.lst ((shw M 0 (x.take i)).map V.bl)))
    ⟨_, _, rfl, s4, h4, ha4, hf4⟩ (fun i σ' H' _ h => by obtain ⟨_, _, _, _, _, h, _⟩ := h; exact h) (fun i y σ' H5 H6 hi h hy => ?_) fun σ' H5 h => ?_
  · obtain ⟨x2, x5, rfl, s5, h5, ha5, hf5⟩ := h
    obtain ⟨rfl, hy⟩ := hy
    rw [List.length_map] at hi
    rw [List.getElem?_map] at hy
    obtain ⟨b, hb, rfl⟩ := Option.map_eq_some_iff.mp hy
    have tk1 := KM.take_next hb
    have li : rn M 0 (x.take i) < M.length := okM.rn_lt _ 0 okM.pos
    have h5' : Dt H6 v (.tuple (M.map eRow)) := h5
    refine r_seq (EvD.run (f := f0) (ev_ixT (ev_ixT (ev_var rfl h5') (ev_var rfl (.int _)) (row_get li)) (ev_intB (ev_var rfl (.bl b))) (side_at li b)) fun pv H7 e7 hp => ?_)
    obtain ⟨pa, ps, rfl, hpa, hps⟩ := (show Dt H7 pv (.tuple [.bool (ot M (rn M 0 (x.take i)) b), .int ((go M (rn M 0 (x.take i)) b : Nat) : Int)]) from hp).tup_inv
    obtain ⟨w1, w2, rfl, hw1, hw2⟩ := dta2 hps
    obtain rfl := hw1.bl_eq
    obtain rfl := hw2.int_eq
    have hf7 := e7.keep _ _ (fun z => z) hf5
    refine ⟨pa, _, rfl, SqT.of hpa, rfl, _, _, rfl, _, _, rfl, rfl, ?_⟩
    dsimp only
    refine r_drop ⟨.ref fd, rfl, .inl ⟨rfl, _, SqL.of hf7⟩, _, rfl, fd, _, _, rfl, rfl, hf7, ?_, some (.bl b), some (.bl (ot M (rn M 0 (x.take i)) b)), ?_, same_mut (s5.trans (le_same e7)) nf0, (h5.to e7.tup).to (tle_lst hf7), ?_, ?_⟩
    · rw [List.length_map, shw_len, List.length_take, sizeLine_eq]; omega
    · rw [tk1, rn_snoc]; rfl
    · rw [upd_ne fa]; exact e7.keep _ _ (fun z => z) ha5
    · rw [upd_same, tk1, shw_snoc, List.map_append]; rfl
  · obtain ⟨x2, x5, rfl, s5, h5, ha5, hf5⟩ := h
    rw [List.length_map, List.take_length] at hf5
    refine s_ret (f := f0) (ev_tupL (evv_var rfl) hf5 (fun z => z) (DtA.of_bls _)) fun r H6 e6 hr => q r H6 (s5.trans (le_same e6)) hr
end
end K13
/-! K13G: rows, their sums. -/
namespace K13
open PySem PySem.Spec PyProof.Rows L2 KM
def nmG : LG → Str
  | .on _ => "on"
  | .off _ => "off"
  | .mv _ => "moved"
  | .slow _ _ => "slow"
def eG : LG → PyData
  | .on n => .tuple [.str "on", .int (n : Int)]
  | .off n => .tuple [.str "off", .int (n : Int)]
  | .mv n => .tuple [.str "moved", .int (n : Int)]
  | .slow a b => .tuple [.str "slow", .int (a : Int), .int (b : Int)]
def eGs (gs : List LG) : PyData := .tuple (gs.map eG)
theorem ne_on_slow : decide (("on" : Str) = "slow") = false := by decide +kernel
theorem ne_off_slow : decide (("off" : Str) = "slow") = false := by decide +kernel
theorem ne_mv_slow : decide (("moved" : Str) = "slow") = false := by decide +kernel
theorem eq_slow : decide (("slow" : Str) = "slow") = true := by decide +kernel
theorem ne_on_mv : decide (("on" : Str) = "moved") = false := by decide +kernel
theorem ne_off_mv : decide (("off" : Str) = "moved") = false := by decide +kernel
theorem eq_mv : decide (("moved" : Str) = "moved") = true := by decide +kernel
theorem eq_on : decide (("on" : Str) = "on") = true := by decide +kernel
theorem eq_off : decide (("off" : Str) = "off") = true := by decide +kernel
theorem ne_off_on : decide (("off" : Str) = "on") = false := by decide +kernel
theorem ne_on_off : decide (("on" : Str) = "off") = false := by decide +kernel
theorem ne_mv_on : decide (("moved" : Str) = "on") = false := by decide +kernel
theorem ne_mv_off : decide (("moved" : Str) = "off") = false := by decide +kernel
theorem ne_on_times : decide (("on" : Str) = "times") = false := by decide +kernel
theorem ne_off_times : decide (("off" : Str) = "times") = false := by decide +kernel
theorem ne_mv_times : decide (("moved" : Str) = "times") = false := by decide +kernel
theorem ne_slow_times : decide (("slow" : Str) = "times") = false := by decide +kernel
theorem ne_up_down : decide (("up" : Str) = "down") = false := by decide +kernel
theorem ne_down_up : decide (("down" : Str) = "up") = false := by decide +kernel
theorem eq_up : decide (("up" : Str) = "up") = true := by decide +kernel
theorem eq_down : decide (("down" : Str) = "down") = true := by decide +kernel
/-- what never runs -/
def tNo : TE := fun _ _ _ => False
theorem pe_no {X : Cx} {e : Expr} : PE X e tNo := ⟨fun _ _ _ _ _ _ h => h.elim⟩
section
variable {f : Fx} {σ : L2.St} {H : Hp} {te : TE} {D : Ends} {i j : Int}
theorem s_augI {n : Nat} (hx : σ[n]? = some (some (.int i))) (h : EvD f te σ H (.int j)) (k : ∀ H1, Le f H H1 → D.nx (σ.set n (some (.int (i + j)))) H1) : tAug n te (ipI fun i j => i + j) D σ H :=
  ⟨_, hx, h H (Le.refl _) _ fun v H1 e hv => by
    obtain rfl := hv.int_eq
    exact ⟨_, _, rfl, rfl, k H1 e⟩⟩
theorem s_aug2 {n : Nat} {tz : TS} (hx : σ[n]? = some (some (.int i))) (h : EvD f te σ H (.int j)) (k : ∀ H1, Le f H H1 → tz D (σ.set n (some (.int (i + j)))) H1) : tSeq (tAug n te (ipI fun i j => i + j)) tz D σ H := s_augI (D := { D with nx := tz D }) hx h k
theorem s_set {n : Nat} {tz : TS} {d : PyData} (h : EvD f te σ H d) (k : ∀ v H1, Le f H H1 → Dt H1 v d → tz D (σ.set n (some v)) H1) : tSeq (tAsg te (gName n)) tz D σ H := s_asg (D := { D with nx := tz D }) h k
theorem s_setL {n : Nat} {tz : TS} {ds : List PyData} (h : EvL f te σ H ds) (k : ∀ p vs H1, Le f H H1 → H p = none → H1 p = some (.lst vs) → DtA H1 vs ds → tz D (σ.set n (some (.ref p))) H1) : tSeq (tAsg te (gName n)) tz D σ H := s_asgL (D := { D with nx := tz D }) h k
theorem s_when {b : Bool} {tt : TT} {tu tz : TS} (h : EvT f tt σ H b) (h1 : b = true → ∀ H1, Le f H H1 → tu { D with nx := tz D } σ H1) (h2 : b = false → ∀ H1, Le f H H1 → tz D σ H1) : tSeq (tIfS tt tu tNext) tz D σ H := n_when (h H (Le.refl _) _ fun H1 e => by
  cases b with
  | true => exact iteT (h1 rfl H1 e)
  | false => exact iteF (h2 rfl H1 e))
theorem s_ifs {b : Bool} {tt : TT} {tu tw tz : TS} (h : EvT f tt σ H b) (h1 : b = true → ∀ H1, Le f H H1 → tu { D with nx := tz D } σ H1) (h2 : b = false → ∀ H1, Le f H H1 → tw { D with nx := tz D } σ H1) : tSeq (tIfS tt tu tw) tz D σ H := n_if (h H (Le.refl _) _ fun H1 e => by
  cases b with
  | true => exact iteT (h1 rfl H1 e)
  | false => exact iteF (h2 rfl H1 e))
end
def sp_amount : Sp := fun vs H Q _ => ∃ n : Int, DtA H vs [.int n] ∧ RetD H Q (.bool (decide (n ≥ 0)))
def sp_gate : Sp := fun vs H Q _ => ∃ g, DtA H vs [eG g] ∧ RetD H Q (.bool true)
def sp_row_of : Sp := fun vs H Q _ => ∃ gs n, DtA H vs [eGs gs, .int n] ∧ gs.length ≤ 1000 ∧ RetD H Q (.bool true)
def sp_told_row : Sp := fun vs H Q _ => ∃ gs, DtA H vs [eGs gs] ∧ gs.length ≤ 1000 ∧ RetD H Q (.bool true)
def sp_check_row : Sp := fun vs H Q _ => ∃ gs, DtA H vs [eGs gs] ∧ gs.length ≤ 1000 ∧ RetD H Q .none
def sp_late_by : Sp := fun vs H Q _ => ∃ g, DtA H vs [eG g] ∧ RetD H Q (.tuple [.int (g.late.1 : Int), .int (g.late.2 : Int)])
def sp_sums_of : Sp := fun vs H Q _ => ∃ gs, DtA H vs [eGs gs] ∧ gs.length ≤ 1000 ∧ RetD H Q (.tuple [.int (onSum gs : Int), .int (offSum gs : Int)])
theorem eG_at (g : LG) : ∃ d ds, eG g = .tuple (.str (nmG g) :: d :: ds) := by cases g <;> exact ⟨_, _, rfl⟩
section
variable {P : Program} {w : World} {K : PySem.W.Frag} {mg : Str → Option Value} {base : Heap}
theorem ok_is_amount (A : At K mg "is_amount" s_is_amount ["thing"]) (f_is_integer : Fn P w K mg base 1 "is_integer" ["thing"] sp_is_integer) : Fn P w K mg base 2 "is_amount" ["thing"] sp_amount := by
  refine A.fn c_is_amount (fun vs H Q E h => by obtain ⟨d, h, _⟩ := h; exact h.length) fun f cdv A outer s H vs Q E hr h => ?_
  obtain ⟨n, h, q⟩ := h
  obtain ⟨v, rfl, hd⟩ := dta1 h
  refine ⟨_, (pss_one (ps_ret (pe_and (pe_fn f_is_integer (hr.mono (by decide)) rfl (pa_cons (pv 0) pa_nil)) (pe_one (pe_cmpR op_ge (pv 0) pe_int (nomark _)))))), ?_⟩
  exact s_ret (f := f0) (ev_and (ev_call (d := .bool true) (ea_cons (ev_var rfl hd) ea_nil) (fun H1 vs e hv Q r => ⟨.int n, hv, r⟩) f0_same) fun _ => ev_ib (ev_var rfl hd) ev_int) fun v H1 e1 hv => q v H1 (le_same e1) (hv.is rfl)
/-- x in ("on", "off"), the tuple just laid -/
theorem ev_in2 {f : Fx} {σ : L2.St} {H : Hp} {te : TE} {z a b : Str} (h : EvD f te σ H (.str z)) : EvD f (tOp (rIn K false) te (tTup (tCons (tC (.str a)) (tCons (tC (.str b)) tNil)))) σ H (.bool (decide (a = z) || decide (b = z))) := fun H1 e1 Q q =>
  h H1 e1 _ fun v H2 e2 hv => by
    obtain rfl := hv.str_eq
    refine ⟨by show 2 ≤ sizeLine; decide, fun p hp => ⟨p, _, rfl, .inr (SqT.of upd_same), rfl, rfl, q _ _ (e2.trans (Le.new hp)) ?_⟩⟩
    have : inV (.str z) [.str a, .str b] = (decide (a = z) || decide (b = z)) := by
      unfold inV
      simp only [List.any_cons, List.any_nil, Bool.or_false]
      rfl
    rw [← this]
    exact .bl _
theorem ok_is_gate (T : Top mg) (A : At K mg "is_gate" s_is_gate ["thing"]) (f_is_integer : Fn P w K mg base 1 "is_integer" ["thing"] sp_is_integer) (f_is_amount : Fn P w K mg base 2 "is_amount" ["thing"] sp_amount) : Fn P w K mg base 3 "is_gate" ["thing"] sp_gate := by
  refine A.fn c_is_gate (fun vs H Q E h => by obtain ⟨d, h, _⟩ := h; exact h.length) fun f cdv A outer s H vs Q E hr h => ?_
  obtain ⟨g, h, q⟩ := h
  obtain ⟨v, rfl, hd⟩ := dta1 h
  refine ⟨_, (pss_cons (ps_if (pt_cmpR op_eq (pe_callB (cl_len K rfl) (by rfl) T.len_ (by decide +kernel) (pa_cons (pv 0) pa_nil)) pe_int (nomark _)) (pss_one (ps_ret (pe_and (pe_cmpR op_eq (pe_ix (ixT K rfl) (pv 0) pe_int (fun _ _ => rfl)) pe_str (nomark _)) (pe_and (pe_fn f_is_amount (hr.mono (by decide)) rfl (pa_cons (pe_ix (ixT K rfl) (pv 0) pe_int (fun _ _ => rfl)) pa_nil)) (pe_one (pe_fn f_is_amount (hr.mono (by decide)) rfl (pa_cons (pe_ix (ixT K rfl) (pv 0) pe_int (fun _ _ => rfl)) pa_nil))))))) pss_nil)
      (pss_cons (ps_if (pt_cmpR op_ne (pe_callB (cl_len K rfl) (by rfl) T.len_ (by decide +kernel) (pa_cons (pv 0) pa_nil)) pe_int (nomark _)) (pss_one (ps_ret pe_bl)) pss_nil)
      (pss_cons (ps_if (pt_cmpR op_eq (pe_ix (ixT K rfl) (pv 0) pe_int (fun _ _ => rfl)) pe_str (nomark _)) (pss_one (ps_ret (pe_fn f_is_integer (hr.mono (by decide)) rfl (pa_cons (pe_ix (ixT K rfl) (pv 0) pe_int (fun _ _ => rfl)) pa_nil)))) pss_nil)
      (pss_one (ps_ret (pe_and (pe_callB (cl_isi K rfl) (by rfl) T.isinstance_ (by decide +kernel) (pa_cons (pe_ix (ixT K rfl) (pv 0) pe_int (fun _ _ => rfl)) (pa_cons (pe_bltn (v := .ty "str") (by rfl) T.str_ (by decide +kernel) rfl) pa_nil))) (pe_and (pe_cmpR (opIn K rfl) (pe_ix (ixT K rfl) (pv 0) pe_int (fun _ _ => rfl)) (pe_tup (pa_cons pe_str (pa_cons pe_str pa_nil))) (by rfl)) (pe_one (pe_fn f_is_amount (hr.mono (by decide)) rfl (pa_cons (pe_ix (ixT K rfl) (pv 0) pe_int (fun _ _ => rfl)) pa_nil)))))))))), ?_⟩
  have nn : ∀ n : Nat, decide ((n : Int) ≥ 0) = true := fun n => decide_eq_true (Int.natCast_nonneg n)
  cases g with
  | slow a b =>
    have h1 : Dt H v (.tuple [.str "slow", .int (a : Int), .int (b : Int)]) := hd
    refine s_when (f := f0) (b := true) ((et_test (ev_eqI (ev_lenT (ev_var rfl h1)) ev_int)).is rfl) (fun _ H1 e1 => ?_) (fun z => by cases z)
    have h2 := h1.to e1.tup
    refine s_ret (f := f0) ((ev_and (ev_eqS (ev_ixT (ev_var rfl h2) ev_int rfl) ev_str) fun _ => ev_and (ev_call (ea_cons (ev_ixT (ev_var rfl h2) ev_int rfl) ea_nil) (fun H1 vs e hv Q r => ⟨_, hv, r⟩) f0_same) fun _ => ev_call (ea_cons (ev_ixT (ev_var rfl h2) ev_int rfl) ea_nil) (fun H1 vs e hv Q r => ⟨_, hv, r⟩) f0_same).is ?_)
      fun v H2 e2 hv => q v H2 (le_same (e1.trans e2)) hv
    rw [eq_slow, nn, nn]; rfl
  | mv n =>
    have h1 : Dt H v (.tuple [.str "moved", .int (n : Int)]) := hd
    refine s_when (f := f0) (b := false) ((et_test (ev_eqI (ev_lenT (ev_var rfl h1)) ev_int)).is rfl) (fun z => by cases z) fun _ H1 e1 => ?_
    have h2 := h1.to e1.tup
    refine s_when (f := f0) (b := false) ((et_test (ev_neI (ev_lenT (ev_var rfl h2)) ev_int)).is rfl) (fun z => by cases z) fun _ H2 e2 => ?_
    have h3 := h2.to e2.tup
    refine s_when (f := f0) (b := true) ((et_test (ev_eqS (ev_ixT (ev_var rfl h3) ev_int rfl) ev_str)).is eq_mv) (fun _ H3 e3 => ?_) (fun z => by cases z)
    exact s_ret (f := f0) (ev_call (d := .bool true) (ea_cons (ev_ixT (ev_var rfl (h3.to e3.tup)) ev_int rfl) ea_nil) (fun H1 vs e hv Q r => ⟨.int (n : Int), hv, r⟩) f0_same) fun v H4 e4 hv => q v H4 (le_same (((e1.trans e2).trans e3).trans e4)) hv
  | on n =>
    have h1 : Dt H v (.tuple [.str "on", .int (n : Int)]) := hd
    refine s_when (f := f0) (b := false) ((et_test (ev_eqI (ev_lenT (ev_var rfl h1)) ev_int)).is rfl) (fun z => by cases z) fun _ H1 e1 => ?_
    have h2 := h1.to e1.tup
    refine s_when (f := f0) (b := false) ((et_test (ev_neI (ev_lenT (ev_var rfl h2)) ev_int)).is rfl) (fun z => by cases z) fun _ H2 e2 => ?_
    have h3 := h2.to e2.tup
    refine s_when (f := f0) (b := false) ((et_test (ev_eqS (ev_ixT (ev_var rfl h3) ev_int rfl) ev_str)).is ne_on_mv) (fun z => by cases z) fun _ H3 e3 => ?_
    have h4 := h3.to e3.tup
    refine s_ret (f := f0) ((ev_and (ev_isi (d := .str "on") (ev_ixT (ev_var rfl h4) ev_int rfl) k_str_str) fun _ => ev_and (ev_in2 (ev_ixT (ev_var rfl h4) ev_int rfl)) fun _ => ev_call (ea_cons (ev_ixT (ev_var rfl h4) ev_int rfl) ea_nil) (fun H1 vs e hv Q r => ⟨_, hv, r⟩) f0_same).is ?_)
      fun v H4 e4 hv => q v H4 (le_same (((e1.trans e2).trans e3).trans e4)) hv
    rw [eq_on, nn]; rfl
  | off n =>
    have h1 : Dt H v (.tuple [.str "off", .int (n : Int)]) := hd
    refine s_when (f := f0) (b := false) ((et_test (ev_eqI (ev_lenT (ev_var rfl h1)) ev_int)).is rfl) (fun z => by cases z) fun _ H1 e1 => ?_
    have h2 := h1.to e1.tup
    refine s_when (f := f0) (b := false) ((et_test (ev_neI (ev_lenT (ev_var rfl h2)) ev_int)).is rfl) (fun z => by cases z) fun _ H2 e2 => ?_
    have h3 := h2.to e2.tup
    refine s_when (f := f0) (b := false) ((et_test (ev_eqS (ev_ixT (ev_var rfl h3) ev_int rfl) ev_str)).is ne_off_mv) (fun z => by cases z) fun _ H3 e3 => ?_
    have h4 := h3.to e3.tup
    refine s_ret (f := f0) ((ev_and (ev_isi (d := .str "off") (ev_ixT (ev_var rfl h4) ev_int rfl) k_str_str) fun _ => ev_and (ev_in2 (ev_ixT (ev_var rfl h4) ev_int rfl)) fun _ => ev_call (ea_cons (ev_ixT (ev_var rfl h4) ev_int rfl) ea_nil) (fun H1 vs e hv Q r => ⟨_, hv, r⟩) f0_same).is ?_)
      fun v H4 e4 hv => q v H4 (le_same (((e1.trans e2).trans e3).trans e4)) hv
    rw [eq_off, nn, Bool.or_true]; rfl
theorem ok_is_row_of (T : Top mg) (A : At K mg "is_row_of" s_is_row_of ["thing", "deep"]) (f_is_gate : Fn P w K mg base 3 "is_gate" ["thing"] sp_gate) : Fn P w K mg base 4 "is_row_of" ["thing", "deep"] sp_row_of := by
  refine A.fn c_is_row_of (fun vs H Q E h => by obtain ⟨_, _, h, _⟩ := h; exact h.length) fun f cdv A outer s H vs Q E hr h => ?_
  obtain ⟨gs, n, h, hz, q⟩ := h
  obtain ⟨v, u, rfl, hd, hu⟩ := dta2 h
  refine ⟨_, (pss_cons (ps_if (PW.pt (pw_or (pt_not (pt_val (pe_callB (cl_isi K rfl) (by rfl) T.isinstance_ (by decide +kernel) (pa_cons (pv 0) (pa_cons (pe_bltn (v := .ty "tuple") (by rfl) T.tuple_ (by decide +kernel) rfl) pa_nil))))) (pw_or1 (pt_not (pt_val (pe_callB (cl_all K rfl rfl) (by rfl) T.all_ (by decide +kernel) (pa_cons (pe_lc (own := [("part", 2)]) (g := gName 2) (tt := tYes) rfl c_is_row_of.nd (pi_tup (pv 0)) (blkOk_by (own := [("part", 2)]) (N := n_is_row_of) (sc := defScope s_is_row_of) (by decide +kernel)) (fun _ _ _ _ _ => (pg_name (i := 2) c_is_row_of.nd rfl (.inl rfl))) (fun _ _ _ _ _ => pts_nil) (fun _ _ _ _ _ => (pe_callB (cl_isi K rfl) (by rfl) T.isinstance_ (by decide +kernel) (pa_cons (pv 2) (pa_cons (pe_bltn (v := .ty "tuple") (by rfl) T.tuple_ (by decide +kernel) rfl) pa_nil))))) pa_nil))))))) (pss_one (ps_ret pe_bl)) pss_nil)
      (pss_one (ps_ret (pe_callB (cl_all K rfl rfl) (by rfl) T.all_ (by decide +kernel) (pa_cons (pe_lc (own := [("part", 2)]) (g := gName 2) (tt := tYes) rfl c_is_row_of.nd (pi_tup (pv 0)) (blkOk_by (own := [("part", 2)]) (N := n_is_row_of) (sc := defScope s_is_row_of) (by decide +kernel)) (fun _ _ _ _ _ => (pg_name (i := 2) c_is_row_of.nd rfl (.inl rfl))) (fun _ _ _ _ _ => pts_nil) (fun _ _ _ _ _ => (pe_or (pe_fn f_is_gate (hr.mono (by decide)) rfl (pa_cons (pv 2) pa_nil)) (pe_one pe_no)))) pa_nil))))), ?_⟩
  have h1 : Dt H v (.tuple (gs.map eG)) := hd
  have t1 : ∀ p : LG → Bool, (∀ x ∈ gs, p x = true) → gs.all p = true := fun p h => List.all_eq_true.mpr h
  refine s_when (f := f0) (b := false) (EvT.is (et_or (et_not (et_B (ev_isi (ev_var rfl h1) k_tuple_tuple))) fun _ => et_not (et_B (ev_all' (p := fun _ => true) (xs := gs)
    (el_mapT1 gs eG _ (ev_var rfl h1) f0_no (by omega) (fun _ => rfl) fun x hx v H1 e hv => by obtain ⟨d, ds, e⟩ := eG_at x; rw [e] at hv; exact ev_isi (ev_var rfl hv) k_tuple_tuple)))) ?_) (fun z => by cases z) fun _ H1 e1 => ?_
  · rw [t1 _ fun _ _ => rfl]; rfl
  · have h2 := h1.to e1.tup
    refine s_ret (f := f0) (ev_all' (p := fun _ => true) (xs := gs) (el_mapT1 gs eG _ (ev_var rfl h2) f0_no (by omega) (fun _ => rfl) fun x hx v H3 e hv => ?_)) fun r H3 e3 hv => q r H3 (le_same (e1.trans e3)) (hv.is (by rw [t1 _ fun _ _ => rfl]))
    exact (ev_or (c := true) (ev_call (d := .bool true) (ea_cons (ev_var rfl hv) ea_nil) (fun H1 vs e hv Q r => ⟨x, hv, r⟩) f0_same) fun z => by cases z).is rfl
theorem ok_is_told_row (T : Top mg) (A : At K mg "is_told_row" s_is_told_row ["thing"]) (f_is_row_of : Fn P w K mg base 4 "is_row_of" ["thing", "deep"] sp_row_of) : Fn P w K mg base 5 "is_told_row" ["thing"] sp_told_row := by
  refine A.fn c_is_told_row (fun vs H Q E h => by obtain ⟨_, h, _⟩ := h; exact h.length) fun f cdv A outer s H vs Q E hr h => ?_
  obtain ⟨gs, h, hz, q⟩ := h
  obtain ⟨v, rfl, hd⟩ := dta1 h
  obtain ⟨tk, g_MOST_DEEP⟩ := T.MOST_DEEP
  refine ⟨_, (pss_one (ps_ret (pe_fn f_is_row_of (hr.mono (by decide)) rfl (pa_cons (pv 0) (pa_cons (pe_glob (v := .int 6) (by rfl) g_MOST_DEEP ⟨_, rfl⟩) pa_nil))))), ?_⟩
  exact s_ret (f := f0) (ev_call (d := .bool true) (ea_cons (ev_var rfl hd) (ea_cons ev_int ea_nil)) (fun H1 vs e hv Q r => ⟨gs, _, hv, hz, r⟩) f0_same) fun v H1 e1 hv => q v H1 (le_same e1) hv
theorem ok_check_row (A : At K mg "check_row" s_check_row ["thing"]) (f_is_told_row : Fn P w K mg base 5 "is_told_row" ["thing"] sp_told_row) : Fn P w K mg base 6 "check_row" ["thing"] sp_check_row := by
  refine A.fn c_check_row (fun vs H Q E h => by obtain ⟨_, h, _⟩ := h; exact h.length) fun f cdv A outer s H vs Q E hr h => ?_
  obtain ⟨gs, h, hz, q⟩ := h
  obtain ⟨v, rfl, hd⟩ := dta1 h
  refine ⟨_, (pss_one (ps_if (pt_not (pt_val (pe_fn f_is_told_row (hr.mono (by decide)) rfl (pa_cons (pv 0) pa_nil)))) pss_never pss_nil)), ?_⟩
  exact s_if (f := f0) (b := false) ((et_not (et_B (ev_call (d := .bool true) (ea_cons (ev_var rfl hd) ea_nil) (fun H1 vs e hv Q r => ⟨gs, hv, hz, r⟩) f0_same))).is rfl) (fun z => by cases z) fun _ H1 e1 => q _ H1 (le_same e1) .non
theorem ok_late_by (A : At K mg "late_by" s_late_by ["gate"]) : Fn P w K mg base 1 "late_by" ["gate"] sp_late_by := by
  refine A.fn c_late_by (fun vs H Q E h => by obtain ⟨_, h, _⟩ := h; exact h.length) fun f cdv A outer s H vs Q E hr h => ?_
  obtain ⟨g, h, q⟩ := h
  obtain ⟨v, rfl, hd⟩ := dta1 h
  refine ⟨_, (pss_cons (ps_if (pt_cmpR op_eq (pe_ix (ixT K rfl) (pv 0) pe_int (fun _ _ => rfl)) pe_str (nomark _)) (pss_one (ps_ret (pe_tup (pa_cons (pe_ix (ixT K rfl) (pv 0) pe_int (fun _ _ => rfl)) (pa_cons (pe_ix (ixT K rfl) (pv 0) pe_int (fun _ _ => rfl)) pa_nil))))) pss_nil)
      (pss_cons (ps_if (pt_cmpR op_eq (pe_ix (ixT K rfl) (pv 0) pe_int (fun _ _ => rfl)) pe_str (nomark _)) (pss_one (ps_ret (pe_tup (pa_cons (pe_ix (ixT K rfl) (pv 0) pe_int (fun _ _ => rfl)) (pa_cons (pe_ix (ixT K rfl) (pv 0) pe_int (fun _ _ => rfl)) pa_nil))))) pss_nil)
      (pss_one (ps_ret (pe_ifExp (pt_cmpR op_eq (pe_ix (ixT K rfl) (pv 0) pe_int (fun _ _ => rfl)) pe_str (nomark _)) (pe_tup (pa_cons (pe_ix (ixT K rfl) (pv 0) pe_int (fun _ _ => rfl)) (pa_cons pe_int pa_nil))) (pe_tup (pa_cons pe_int (pa_cons (pe_ix (ixT K rfl) (pv 0) pe_int (fun _ _ => rfl)) pa_nil)))))))), ?_⟩
  cases g with
  | slow a b =>
    have h1 : Dt H v (.tuple [.str "slow", .int (a : Int), .int (b : Int)]) := hd
    refine s_when (f := f0) (b := true) ((et_test (ev_eqS (ev_ixT (ev_var rfl h1) ev_int rfl) ev_str)).is eq_slow) (fun _ H1 e1 => ?_) (fun z => by cases z)
    have h2 := h1.to e1.tup
    exact s_ret (f := f0) (ev_tup (ea_cons (ev_ixT (ev_var rfl h2) ev_int rfl) (ea_cons (ev_ixT (ev_var rfl h2) ev_int rfl) ea_nil))) fun v H2 e2 hv => q v H2 (le_same (e1.trans e2)) hv
  | mv n =>
    have h1 : Dt H v (.tuple [.str "moved", .int (n : Int)]) := hd
    refine s_when (f := f0) (b := false) ((et_test (ev_eqS (ev_ixT (ev_var rfl h1) ev_int rfl) ev_str)).is ne_mv_slow) (fun z => by cases z) fun _ H1 e1 => ?_
    have h2 := h1.to e1.tup
    refine s_when (f := f0) (b := true) ((et_test (ev_eqS (ev_ixT (ev_var rfl h2) ev_int rfl) ev_str)).is eq_mv) (fun _ H3 e3 => ?_) (fun z => by cases z)
    have h3 := h2.to e3.tup
    exact s_ret (f := f0) (ev_tup (ea_cons (ev_ixT (ev_var rfl h3) ev_int rfl) (ea_cons (ev_ixT (ev_var rfl h3) ev_int rfl) ea_nil))) fun v H2 e2 hv => q v H2 (le_same ((e1.trans e3).trans e2)) hv
  | on n =>
    have h1 : Dt H v (.tuple [.str "on", .int (n : Int)]) := hd
    refine s_when (f := f0) (b := false) ((et_test (ev_eqS (ev_ixT (ev_var rfl h1) ev_int rfl) ev_str)).is ne_on_slow) (fun z => by cases z) fun _ H1 e1 => ?_
    have h2 := h1.to e1.tup
    refine s_when (f := f0) (b := false) ((et_test (ev_eqS (ev_ixT (ev_var rfl h2) ev_int rfl) ev_str)).is ne_on_mv) (fun z => by cases z) fun _ H3 e3 => ?_
    have h3 := h2.to e3.tup
    exact s_ret (f := f0) (ev_if (b := true) ((et_test (ev_eqS (ev_ixT (ev_var rfl h3) ev_int rfl) ev_str)).is eq_on) (fun _ => ev_tup (ea_cons (ev_ixT (ev_var rfl h3) ev_int rfl) (ea_cons ev_int ea_nil))) (fun z => by cases z)) fun v H2 e2 hv => q v H2 (le_same ((e1.trans e3).trans e2)) hv
  | off n =>
    have h1 : Dt H v (.tuple [.str "off", .int (n : Int)]) := hd
    refine s_when (f := f0) (b := false) ((et_test (ev_eqS (ev_ixT (ev_var rfl h1) ev_int rfl) ev_str)).is ne_off_slow) (fun z => by cases z) fun _ H1 e1 => ?_
    have h2 := h1.to e1.tup
    refine s_when (f := f0) (b := false) ((et_test (ev_eqS (ev_ixT (ev_var rfl h2) ev_int rfl) ev_str)).is ne_off_mv) (fun z => by cases z) fun _ H3 e3 => ?_
    have h3 := h2.to e3.tup
    exact s_ret (f := f0) (ev_if (b := false) ((et_test (ev_eqS (ev_ixT (ev_var rfl h3) ev_int rfl) ev_str)).is ne_off_on) (fun z => by cases z) (fun _ => ev_tup (ea_cons ev_int (ea_cons (ev_ixT (ev_var rfl h3) ev_int rfl) ea_nil)))) fun v H2 e2 hv => q v H2 (le_same ((e1.trans e3).trans e2)) hv
theorem nm_times (g : LG) : decide (nmG g = "times") = false := by
  cases g
  · exact ne_on_times
  · exact ne_off_times
  · exact ne_mv_times
  · exact ne_slow_times
theorem ok_sums_of (T : Top mg) (A : At K mg "sums_of" s_sums_of ["row"]) (f_late_by : Fn P w K mg base 1 "late_by" ["gate"] sp_late_by) : Fn P w K mg base 2 "sums_of" ["row"] sp_sums_of := by
  refine A.fn c_sums_of (fun vs H Q E h => by obtain ⟨_, h, _⟩ := h; exact h.length) fun f cdv A outer s H vs Q E hr h => ?_
  obtain ⟨gs, h, hz, q⟩ := h
  obtain ⟨v, rfl, hd⟩ := dta1 h
  refine ⟨_, (pss_cons (ps_set (i := 1) c_sums_of.nd rfl (.inl rfl) pe_int)
      (pss_cons (ps_set (i := 2) c_sums_of.nd rfl (.inl rfl) pe_int)
      (pss_cons (ps_for PassesOwn.never rfl (pi_tup (pv 0)) (pg_name (i := 3) c_sums_of.nd rfl (.inl rfl)) (pss_cons (ps_set (i := 4) c_sums_of.nd rfl (.inl rfl) pe_int)
      (pss_cons (ps_set (i := 5) c_sums_of.nd rfl (.inl rfl) (pe_tup (pa_cons pe_int (pa_cons pe_int pa_nil))))
      (pss_cons (ps_if (pt_cmpR op_eq (pe_ix (ixT K rfl) (pv 3) pe_int (fun _ _ => rfl)) pe_str (nomark _)) pss_never (pss_one (ps_set (i := 5) c_sums_of.nd rfl (.inl rfl) (pe_fn f_late_by (hr.mono (by decide)) rfl (pa_cons (pv 3) pa_nil)))))
      (pss_cons (ps_aug (i := 1) c_sums_of.nd rfl (.inl rfl) (pe_op op_mul (pv 4) (pe_ix (ixT K rfl) (pv 5) pe_int (fun _ _ => rfl))) ip_add)
      (pss_one (ps_aug (i := 2) c_sums_of.nd rfl (.inl rfl) (pe_op op_mul (pv 4) (pe_ix (ixT K rfl) (pv 5) pe_int (fun _ _ => rfl))) ip_add)))))))
      (pss_one (ps_ret (pe_tup (pa_cons (pv 1) (pa_cons (pv 2) pa_nil)))))))), ?_⟩
  obtain ⟨a, us, rfl, ha, hu⟩ := (show Dt H v (.tuple (gs.map eG)) from hd).tup_inv
  refine n_set (n_set (n_for ⟨.ref a, rfl, a, rfl, ⟨us, SqT.of ha⟩, ?_⟩))
  have hl : us.length = gs.length := by rw [hu.length, List.length_map]
  refine for_it (walk_tup (K := K) (a := a) (xs := us)) (fun i σ H' => ∃ x3 x4 x5, σ = [some (.ref a), some (.int (onSum (gs.take i) : Int)), some (.int (offSum (gs.take i) : Int)), x3, x4, x5] ∧ Same H H') ⟨_, _, _, rfl, fun _ _ h => h⟩
    (fun i σ H' _ h => by obtain ⟨_, _, _, _, h⟩ := h; exact SqT.of (h _ _ ha)) (fun i y σ H1 H2 hi h hy => ?_) fun σ H1 h => ?_
  · obtain ⟨x3, x4, x5, rfl, e1⟩ := h
    obtain ⟨rfl, hy⟩ := hy
    obtain ⟨d, hg, hdy⟩ := hu.get' hy
    rw [List.getElem?_map] at hg
    obtain ⟨g, hg2, rfl⟩ := Option.map_eq_some_iff.mp hg
    have hy2 : Dt H2 y (eG g) := hdy.to (same_tup e1)
    obtain ⟨d1, ds, eg⟩ := eG_at g
    have hy3 := hy2
    rw [eg] at hy3
    refine n_set (s_set (f := f0) (ev_tup (ea_cons ev_int (ea_cons ev_int ea_nil))) fun m0 H3 e3 hm0 => ?_)
    refine s_ifs (f := f0) (b := false) ((et_test (ev_eqS (ev_ixT (ev_var rfl (hy3.to e3.tup)) ev_int (atI_nat (j := 0) rfl)) ev_str)).is (nm_times g)) (fun z => by cases z) fun _ H4 e4 => ?_
    have hy4 := (hy2.to e3.tup).to e4.tup
    refine s_asg (f := f0) (ev_call (ea_cons (ev_var rfl hy4) ea_nil) (fun H1 vs e hv Q r => ⟨g, hv, r⟩) f0_same) fun m1 H5 e5 hm1 => ?_
    dsimp only
    refine s_aug2 (f := f0) rfl (ev_ic (ev_var rfl (.int 1)) (ev_ixT (ev_var rfl hm1) ev_int rfl) (.inl ⟨by decide, by decide⟩)) fun H6 e6 => ?_
    refine s_augI (f := f0) rfl (ev_ic (ev_var rfl (.int 1)) (ev_ixT (ev_var rfl (hm1.to e6.tup)) ev_int rfl) (.inl ⟨by decide, by decide⟩)) fun H7 e7 => ?_
    refine ⟨some y, some (.int 1), some m1, ?_, e1.trans (le_same ((((e3.trans e4).trans e5).trans e6).trans e7))⟩
    rw [onSum_take hg2, offSum_take hg2]
    simp only [Int.natCast_add, Int.one_mul]
    rfl
  · obtain ⟨x3, x4, x5, rfl, e1⟩ := h
    rw [hl, List.take_length]
    exact s_ret (f := f0) (ev_tup (ea_cons (ev_var rfl (.int _)) (ea_cons (ev_var rfl (.int _)) ea_nil))) fun v H2 e2 hv => q v H2 (e1.trans (le_same e2)) hv
end
end K13
/-! K13H: the climb. -/
namespace K13
open PySem PySem.Spec PyProof.Rows L2 KM
/-- the class, as the top has it -/
structure ClsAt (K : PySem.W.Frag) (mg : Str → Option Value) (x : Str) (C : Addr) (fs : List Str) : Prop where
  cl : Cls K C
  gl : mg x = some (.ref C)
  na : ∀ f ∈ fs, NoAttr K C f
/-- a method of the class at C that keeps its promise -/
structure FnM (P : Program) (w : World) (K : PySem.W.Frag) (mg : Str → Option Value) (base : Heap) (k : Nat) (C : Addr) (m : Str) (ps : List Str) (sp : Sp) : Prop where
  ex : ∃ f fd, FnOk P w K mg base CX0 k f fd ps sp ∧ Meth K C m f ∧ Binds K fd ps []
structure FnI (P : Program) (w : World) (K : PySem.W.Frag) (mg : Str → Option Value) (base : Heap) (k : Nat) (C : Addr) (ps : List Str) (sp : Sp) : Prop where
  ex : ∃ f fd, FnOk P w K mg base CX0 k f fd ps sp ∧ Mk K C f ∧ Binds K fd ps []
theorem pe_mth {X : Cx} {k : Nat} {C : Addr} {m : Str} {ps : List Str} {sp : Sp} {apos pos : Pos} {o e : Expr} {es : List Expr} {ta : TE} {t : TA} {pl : Sem Bool} (F : FnM X.prog X.w X.K X.mg X.base k C m ps sp) (c : Cls X.K C) (hr : Room k X.A) (he : PE X o ta) (ha : PA X (e :: es) t)
    (hst : starEach (e :: es) X.env = (false, eval e X.env) :: starEach es X.env := by rfl) (hpl : (backTo pos (starEach es X.env)).any (·.1) = false := by rfl)
    (ht : eval (.Call (.Attribute o m apos) (e :: es) [] pos) X.env = (do
      let ov ← eval o X.env
      standAt apos.atName
      let (f, first) ← holding [ov] (getMethod ov m pl)
      callWith pos f first (backTo pos (starEach (e :: es) X.env)) (backToKw pos (keywordEach [] X.env))) := by rfl) :
    PE X (.Call (.Attribute o m apos) (e :: es) [] pos) (tMeth C m sp [] E0 ta t) := by
  obtain ⟨f, fd, F1, F2, F3⟩ := F.ex
  exact pe_meth he c F2 F1 hr F3 .nil pass0 ha hst hpl ht
theorem pe_mak {X : Cx} {k : Nat} {C : Addr} {x : Str} {ps : List Str} {sp : Sp} {p pos : Pos} (F : FnI X.prog X.w X.K X.mg X.base k C ps sp) (hr : Room (k + 1) X.A) (hg : Gl X x) (hm : X.mg x = some (.ref C))
    (hdb : (x == ("__debug__" : Str)) = false := by decide) : PE X (.Call (.Name x p) [] [] pos) (tMake C sp [] E0 tNil) := by
  obtain ⟨f, fd, F1, F2, F3⟩ := F.ex
  exact pe_make0 F2 F1 hr hg hm F3 .nil pass0 hdb
/-- a method, as the head has it -/
structure AtM (K : PySem.W.Frag) (C : Addr) (m q : Str) (st : Stmt) (ps : List Str) : Prop where
  ex : ∃ f fd, FunD K m q (defArgs st) (defBody st) (defScope st) [] [] f fd ∧ Meth K C m f ∧ Binds K fd ps []
structure AtI (K : PySem.W.Frag) (C : Addr) (m q : Str) (st : Stmt) (ps : List Str) : Prop where
  ex : ∃ f fd, FunD K m q (defArgs st) (defBody st) (defScope st) [] [] f fd ∧ Mk K C f ∧ Binds K fd ps []
theorem AtM.fn {P : Program} {w : World} {K : PySem.W.Frag} {mg : Str → Option Value} {base : Heap} {C : Addr} {m x : Str} {st : Stmt} {N ps : List Str} {k : Nat} {sp : Sp} (A : AtM K C m x st ps) (S : FnScope N ps (defScope st)) (len : ∀ vs H Q E, sp vs H Q E → vs.length = ps.length)
    (hbody : ∀ (f : Addr) (cdv : Value) (A : Around) (outer : List Env) (s : Shared) (H : Hp) (vs : List V) (Q : VK) (E : XK), Room k (A.deeper (envOfC x (defScope st) s.heap.objs.size f cdv)) → sp vs H Q E →
      ∃ t, PSs (cxOf CX0 P w K mg base N x (defScope st) f cdv A outer s H E).nox (defBody st) t ∧ t { nx := fun _ H' => Q .non H', rt := Q } (start N vs) H) : FnM P w K mg base (k + 1) C m ps sp := by
  obtain ⟨f, fd, F, hm, hb⟩ := A.ex
  exact ⟨f, fd, F.ok S len fun cdv A outer s H vs Q E hr h => by
    obtain ⟨t, h1, h2⟩ := hbody f cdv A outer s H vs Q E hr h
    exact ⟨t, h1.nox, h2⟩, hm, hb⟩
theorem AtI.fn {P : Program} {w : World} {K : PySem.W.Frag} {mg : Str → Option Value} {base : Heap} {C : Addr} {m x : Str} {st : Stmt} {N ps : List Str} {k : Nat} {sp : Sp} (A : AtI K C m x st ps) (S : FnScope N ps (defScope st)) (len : ∀ vs H Q E, sp vs H Q E → vs.length = ps.length)
    (hbody : ∀ (f : Addr) (cdv : Value) (A : Around) (outer : List Env) (s : Shared) (H : Hp) (vs : List V) (Q : VK) (E : XK), Room k (A.deeper (envOfC x (defScope st) s.heap.objs.size f cdv)) → sp vs H Q E →
      ∃ t, PSs (cxOf CX0 P w K mg base N x (defScope st) f cdv A outer s H E).nox (defBody st) t ∧ t { nx := fun _ H' => Q .non H', rt := Q } (start N vs) H) : FnI P w K mg base (k + 1) C ps sp := by
  obtain ⟨f, fd, F, hm, hb⟩ := A.ex
  exact ⟨f, fd, F.ok S len fun cdv A outer s H vs Q E hr h => by
    obtain ⟨t, h1, h2⟩ := hbody f cdv A outer s H vs Q E hr h
    exact ⟨t, h1.nox, h2⟩, hm, hb⟩
def clNames : List Str := ["lead", "high", "deep", "runs"]
def clF (l h d : Int) (r : Addr) : List (Str × V) := [("lead", .int l), ("high", .int h), ("deep", .int d), ("runs", .ref r)]
theorem cl_none_note {l h d : Int} {r : Addr} : (clF l h d r).lookup ("note" : Str) = none := by
  simp only [clF, List.lookup]
  have : (("note" : Str) == "lead") = false ∧ (("note" : Str) == "high") = false ∧ (("note" : Str) == "deep") = false ∧ (("note" : Str) == "runs") = false := by decide +kernel
  rw [this.1, this.2.1, this.2.2.1, this.2.2.2]
theorem cl_none_goto {l h d : Int} {r : Addr} : (clF l h d r).lookup ("go_to" : Str) = none := by
  simp only [clF, List.lookup]
  have : (("go_to" : Str) == "lead") = false ∧ (("go_to" : Str) == "high") = false ∧ (("go_to" : Str) == "deep") = false ∧ (("go_to" : Str) == "runs") = false := by decide +kernel
  rw [this.1, this.2.1, this.2.2.1, this.2.2.2]
theorem cl_ne : (("high" : Str) == "lead") = false ∧ (("deep" : Str) == "lead") = false ∧ (("deep" : Str) == "high") = false ∧ (("runs" : Str) == "lead") = false ∧ (("runs" : Str) == "high") = false ∧ (("runs" : Str) == "deep") = false := by decide +kernel
theorem cl_ne' : ("lead" : Str) ≠ "high" ∧ ("lead" : Str) ≠ "deep" ∧ ("lead" : Str) ≠ "runs" ∧ ("high" : Str) ≠ "deep" ∧ ("high" : Str) ≠ "runs" ∧ ("deep" : Str) ≠ "runs" := by decide +kernel
section
variable {l h d : Int} {r : Addr}
theorem cl_lead : (clF l h d r).lookup ("lead" : Str) = some (.int l) := by simp only [clF, List.lookup, beq_self_eq_true]
theorem cl_high : (clF l h d r).lookup ("high" : Str) = some (.int h) := by simp only [clF, List.lookup, beq_self_eq_true, cl_ne.1]
theorem cl_deep : (clF l h d r).lookup ("deep" : Str) = some (.int d) := by simp only [clF, List.lookup, beq_self_eq_true, cl_ne.2.1, cl_ne.2.2.1]
theorem cl_runs : (clF l h d r).lookup ("runs" : Str) = some (.ref r) := by simp only [clF, List.lookup, beq_self_eq_true, cl_ne.2.2.2.1, cl_ne.2.2.2.2.1, cl_ne.2.2.2.2.2]
theorem cl_slead (x : Int) : putF "lead" (.int x) (clF l h d r) = clF x h d r := by simp only [clF, putF, if_true]
theorem cl_shigh (x : Int) : putF "high" (.int x) (clF l h d r) = clF l x d r := by simp only [clF, putF, if_true, if_neg cl_ne'.1]
theorem cl_sdeep (x : Int) : putF "deep" (.int x) (clF l h d r) = clF l h x r := by simp only [clF, putF, if_true, if_neg cl_ne'.2.1, if_neg cl_ne'.2.2.2.1]
theorem cl_new (x : V) (y z : V) (r : Addr) : putF "runs" (.ref r) (putF "deep" z (putF "high" y (putF "lead" x []))) = ([("lead", x), ("high", y), ("deep", z), ("runs", .ref r)] : List (Str × V)) := by
  simp only [putF, if_neg cl_ne'.1, if_neg cl_ne'.2.1, if_neg cl_ne'.2.2.1, if_neg cl_ne'.2.2.2.1, if_neg cl_ne'.2.2.2.2.1, if_neg cl_ne'.2.2.2.2.2]
end
def wd (b : Bool) : Str := if b = true then "up" else "down"
theorem wd_eq (a b : Bool) : decide (wd a = wd b) = (a == b) := by
  cases a <;> cases b
  · exact eq_down
  · exact ne_down_up
  · exact ne_up_down
  · exact eq_up
def eRun (r : Rn1) : PyData := .tuple [.str (wd r.1), .int r.2]
/-- a climb as it stands -/
structure CHp (H : Hp) (C a r : Addr) (l h d : Int) (rs : List Rn1) : Prop where
  ins : ∃ dx, H a = some (.ins C dx (clF l h d r))
  lst : ∃ us, H r = some (.lst us) ∧ DtA H us (rs.map eRun)
  ne : a ≠ r
/-- all but the climb stays -/
def Keep (H H' : Hp) (a r : Addr) : Prop := ∀ b o, b ≠ a → b ≠ r → H b = some o → H' b = some o
theorem CHp.tle {H H' : Hp} {C a r : Addr} {l h d : Int} {rs : List Rn1} (c : CHp H C a r l h d rs) (k : Keep H H' a r) : TLe H H' := fun b xs e => by
  obtain ⟨dx, h1⟩ := c.ins
  obtain ⟨us, h2, _⟩ := c.lst
  refine k b _ (fun z => ?_) (fun z => ?_) e
  · rw [z, h1] at e; cases e
  · rw [z, h2] at e; cases e
def sp_init (C : Addr) : Sp := fun vs H Q _ => ∃ (a dx : Addr), vs = [.ref a] ∧ H a = some (.ins C dx []) ∧ ∀ H' r, H r = none → CHp H' C a r 0 0 0 [] → (∀ b o, b ≠ a → H b = some o → H' b = some o) → Q .non H'
def sp_note (C : Addr) : Sp := fun vs H Q _ => ∃ (a r : Addr) (l h d : Int) (rs : List Rn1) (x : Rn1), vs = [.ref a, .str (wd x.1), .int x.2] ∧ CHp H C a r l h d rs ∧ rs.length < 1000 ∧ ∀ H', CHp H' C a r l h d (addRun rs x) → Keep H H' a r → Q .non H'
def sp_go_to (C : Addr) : Sp := fun vs H Q _ => ∃ (a r : Addr) (l h d l2 : Int) (rs : List Rn1), vs = [.ref a, .int l2] ∧ CHp H C a r l h d rs ∧ rs.length < 1000 ∧ ∀ H',
  (if h < l2 then CHp H' C a r l2 l2 d (addRun rs (true, l2 - h)) else if l2 < -d then CHp H' C a r l2 h (-l2) (addRun rs (false, -l2 - d)) else CHp H' C a r l2 h d rs) → Keep H H' a r → Q .non H'
section
variable {P : Program} {w : World} {K : PySem.W.Frag} {mg : Str → Option Value} {base : Heap} {C : Addr}
theorem ok_Climb_init (Ca : ClsAt K mg "Climb" C clNames) (A : AtI K C "__init__" "Climb.__init__" s_Climb_init ["self"]) : FnI P w K mg base 1 C ["self"] (sp_init C) := by
  refine A.fn c_Climb_init (fun vs H Q E h => by obtain ⟨_, _, rfl, _⟩ := h; rfl) fun f cdv A outer s H vs Q E hr h => ?_
  obtain ⟨a, dx, rfl, ha, q⟩ := h
  have Cc := Ca.cl
  refine ⟨_, (pss_cons (ps_fld (pv 0) pe_int rfl)
      (pss_cons (ps_fld (pv 0) pe_int rfl)
      (pss_cons (ps_fld (pv 0) pe_int rfl)
      (pss_one (ps_fld (pv 0) (pe_lst pa_nil) rfl))))), ?_⟩
  refine r_seq ⟨.ref a, rfl, a, C, dx, _, rfl, ha, Cc, Ca.na _ (by decide +kernel), by decide, ?_⟩
  refine r_seq ⟨.ref a, rfl, a, C, dx, _, rfl, upd_same, Cc, Ca.na _ (by decide +kernel), by decide, ?_⟩
  refine r_seq ⟨.ref a, rfl, a, C, dx, _, rfl, upd_same, Cc, Ca.na _ (by decide +kernel), by decide, ?_⟩
  refine ⟨Nat.zero_le _, fun r hr => ?_⟩
  have ar : a ≠ r := fun e => by rw [← e, upd_same] at hr; cases hr
  have hr0 : H r = none := by rw [upd_ne (Ne.symm ar), upd_ne (Ne.symm ar), upd_ne (Ne.symm ar)] at hr; exact hr
  refine ⟨.ref a, rfl, a, C, dx, _, rfl, by rw [upd_ne ar]; exact upd_same, Cc, Ca.na _ (by decide +kernel), by decide, ?_⟩
  refine q _ r hr0 ⟨⟨dx, by rw [upd_same, cl_new]; rfl⟩, ⟨[], by rw [upd_ne (Ne.symm ar)]; exact upd_same, .nil⟩, ar⟩ fun b o hb e => ?_
  have br : b ≠ r := fun z => by rw [z, hr0] at e; cases e
  rw [upd_ne hb, upd_ne br, upd_ne hb, upd_ne hb, upd_ne hb]
  exact e
theorem evv_fld {σ : L2.St} {H : Hp} {a dx : Addr} {fs : List (Str × V)} {f : Str} {v : V} {n : Nat} (hs : σ[n]? = some (some (.ref a))) (ha : H a = some (.ins C dx fs)) (c : Cls K C) (na : NoAttr K C f) (hl : fs.lookup f = some v) : EvV f0 (tFld K (tVar n) f) σ H v := fun H1 e1 Q q =>
  ⟨_, hs, a, C, dx, fs, v, rfl, e1.keep _ _ (fun z => z) ha, c, na, hl, q H1 (Le.refl _)⟩
theorem ev_fld {σ : L2.St} {H : Hp} {a dx : Addr} {fs : List (Str × V)} {f : Str} {i : Int} {n : Nat} (hs : σ[n]? = some (some (.ref a))) (ha : H a = some (.ins C dx fs)) (c : Cls K C) (na : NoAttr K C f) (hl : fs.lookup f = some (.int i)) : EvD f0 (tFld K (tVar n) f) σ H (.int i) := fun H1 e1 Q q =>
  ⟨_, hs, a, C, dx, fs, _, rfl, e1.keep _ _ (fun z => z) ha, c, na, hl, q _ H1 (Le.refl _) (.int i)⟩
theorem ixN_last (n : Nat) : ixN (n + 1) (-1) = some n := by
  unfold ixN
  rw [if_neg (by decide), if_pos (by omega)]
  congr 1
  omega
theorem atI_last {α : Type} (l : List α) (x : α) : atI (l ++ [x]) (-1) = some x := by
  unfold atI
  rw [List.length_append, List.length_singleton, ixN_last]
  simp
theorem DtA.set {H : Hp} : ∀ {us : List V} {ds : List PyData} {v : V} {d : PyData} (j : Nat), DtA H us ds → Dt H v d → DtA H (us.set j v) (ds.set j d)
  | _, _, _, _, _, .nil, _ => .nil
  | _, _, _, _, 0, .cons _ t, h => .cons h t
  | _, _, _, _, j + 1, .cons h1 t, h => .cons h1 (DtA.set j t h)
theorem CHp.to {H H' : Hp} {a r : Addr} {l h d : Int} {rs : List Rn1} (c : CHp H C a r l h d rs) (e : Le f0 H H') : CHp H' C a r l h d rs := by
  obtain ⟨⟨dx, h1⟩, ⟨us, h2, h3⟩, h4⟩ := c
  exact ⟨⟨dx, e.keep _ _ (fun z => z) h1⟩, ⟨us, e.keep _ _ (fun z => z) h2, h3.to e.tup⟩, h4⟩
theorem Keep.of {H H' : Hp} {a r : Addr} (e : Le f0 H H') : Keep H H' a r := fun b o _ _ h => e.keep b o (fun z => z) h
theorem Keep.trans {H H1 H2 : Hp} {a r : Addr} (k : Keep H H1 a r) (k2 : Keep H1 H2 a r) : Keep H H2 a r := fun b o h1 h2 h => k2 b o h1 h2 (k b o h1 h2 h)
theorem Keep.r {H : Hp} {a r : Addr} {o : HO} : Keep H (upd H r o) a r := fun b _ _ h2 h => by rw [upd_ne h2]; exact h
theorem Keep.a {H : Hp} {a r : Addr} {o : HO} : Keep H (upd H a o) a r := fun b _ h1 _ h => by rw [upd_ne h1]; exact h
theorem tle_ins {H : Hp} {p C dx : Addr} {fs : List (Str × V)} {o : HO} (h : H p = some (.ins C dx fs)) : TLe H (upd H p o) := TLe.set h fun _ z => by cases z
theorem ok_Climb_note (T : Top mg) (Ca : ClsAt K mg "Climb" C clNames) (A : AtM K C "note" "Climb.note" s_Climb_note ["self", "word", "many"]) : FnM P w K mg base 1 C "note" ["self", "word", "many"] (sp_note C) := by
  refine A.fn c_Climb_note (fun vs H Q E h => by obtain ⟨_, _, _, _, _, _, _, rfl, _⟩ := h; rfl) fun f cdv A outer s H vs Q E hr h => ?_
  obtain ⟨a, r, l, h, d, rs, x, rfl, ch, hz, q⟩ := h
  have Cc := Ca.cl
  have nr : NoAttr K C "runs" := Ca.na _ (by decide +kernel)
  refine ⟨_, (pss_one (ps_if (PW.pt (pw_and (pt_cmpR op_gt (pe_callB (cl_len K rfl) (by rfl) T.len_ (by decide +kernel) (pa_cons (pe_fld (pv 0) rfl) pa_nil)) pe_int (nomark _)) (pw_and1 (pt_cmpR op_eq (pe_ix (ixT K rfl) (pe_ix (ixL K rfl) (pe_fld (pv 0) rfl) (pe_un un_neg pe_int) (fun _ _ => rfl)) pe_int (fun _ _ => rfl)) (pv 1) (nomark _))))) (pss_one (ps_asg (pe_tup (pa_cons (pv 1) (pa_cons (pe_op op_add (pe_ix (ixT K rfl) (pe_ix (ixL K rfl) (pe_fld (pv 0) rfl) (pe_un un_neg pe_int) (fun _ _ => rfl)) pe_int (fun _ _ => rfl)) (pv 2)) pa_nil))) (pg_sub (pe_fld (pv 0) rfl) (pe_un un_neg pe_int) set_list))) (pss_one (ps_expr (pe_bmK K rfl PySem.F.plainAttrs_list PySem.F.slot_list_append PySem.F.type_list_append (mt_append) (pe_fld (pv 0) rfl) (pa_cons (pe_tup (pa_cons (pv 1) (pa_cons (pv 2) pa_nil))) pa_nil)))))), ?_⟩
  obtain ⟨⟨dx, ha⟩, ⟨us, hl, hu⟩, ar⟩ := ch
  have hul : us.length = rs.length := by rw [hu.length, List.length_map]
  rcases List.eq_nil_or_concat rs with rfl | ⟨t, y, rfl⟩
  · refine s_if (f := f0) (b := false) ((et_and (b := false) (c := false) ((et_test (ev_ib (ev_lenL (evv_fld rfl ha Cc nr cl_runs) hl (fun z => z)) ev_int)).is (by rw [hul]; rfl)) (fun z => by cases z)).is rfl) (fun z => by cases z) fun _ H1 e1 => ?_
    have ha1 := e1.keep _ _ (fun z => z) ha
    have hl1 := e1.keep _ _ (fun z => z) hl
    refine s_app (f := f0) (evv_fld rfl ha1 Cc nr cl_runs) hl1 (fun z => z) (ev_tup (ea_cons (ev_var rfl (.str (wd x.1))) (ea_cons (ev_var rfl (.int x.2)) ea_nil))) (by rw [hul]; simp) fun v H2 e2 hv hl2 => ?_
    have ha2 := e2.keep _ _ (fun z => z) ha1
    refine q _ ⟨⟨dx, by rw [upd_ne ar]; exact ha2⟩, ⟨_, upd_same, ?_⟩, ar⟩ ((Keep.of (e1.trans e2)).trans Keep.r)
    have e : us = [] := List.length_eq_zero_iff.mp hul
    subst e
    exact .cons (hv.to (tle_lst hl2)) .nil
  · rw [List.concat_eq_append] at *
    have hlast : ∀ (H1 : Hp), Le f0 H H1 → ∀ (σ : L2.St), σ[0]? = some (some (.ref a)) → EvD f0 (tOp (rIxL K) (tFld K (tVar 0) "runs") (tUn (rU fun i => .int (-i)) (tC (.int 1)))) σ H1 (eRun y) := fun H1 e1 σ hs =>
      ev_ixL (evv_fld hs (e1.keep _ _ (fun z => z) ha) Cc nr cl_runs) (e1.keep _ _ (fun z => z) hl) (fun z => z) (hu.to e1.tup) (ev_neg ev_int) (by rw [List.map_append]; exact atI_last _ _)
    refine s_if (f := f0) (b := (y.1 == x.1)) ((et_and ((et_test (ev_ib (ev_lenL (evv_fld rfl ha Cc nr cl_runs) hl (fun z => z)) ev_int))) fun _ => et_test (ev_eqS (ev_ixT (hlast _ (Le.refl _) _ rfl) ev_int rfl) (ev_var rfl (.str (wd x.1))))).is ?_) (fun hb H1 e1 => ?_) fun hb H1 e1 => ?_
    · rw [hul, wd_eq, List.length_append]
      have : decide (((t.length + [y].length : Nat) : Int) > 0) = true := decide_eq_true (by simp only [List.length_singleton]; omega)
      rw [this]; rfl
    · have ha1 := e1.keep _ _ (fun z => z) ha
      have hl1 := e1.keep _ _ (fun z => z) hl
      have yx : y.1 = x.1 := beq_iff_eq.mp hb
      refine r_asg (EvD.run (f := f0) (ev_tup (ea_cons (ev_var rfl (.str (wd x.1))) (ea_cons (ev_ii (ev_ixT (hlast _ e1 _ rfl) ev_int rfl) (ev_var rfl (.int x.2))) ea_nil))) fun v H2 e2 hv => ?_)
      have ha2 := e2.keep _ _ (fun z => z) ha1
      have hl2 := e2.keep _ _ (fun z => z) hl1
      refine ⟨_, rfl, a, C, dx, _, _, rfl, ha2, Cc, nr, cl_runs, ⟨1, rfl, r, us, _, t.length, rfl, rfl, hl2, ?_, ?_⟩⟩
      · rw [hul, List.length_append]; exact ixN_last _
      · refine q _ ⟨⟨dx, by rw [upd_ne ar]; exact ha2⟩, ⟨_, upd_same, ?_⟩, ar⟩ ((Keep.of (e1.trans e2)).trans Keep.r)
        have := ((hu.to e1.tup).to e2.tup).set t.length hv
        have e3 : (addRun (t ++ [y]) x).map eRun = ((t ++ [y]).map eRun).set t.length (.tuple [.str (wd x.1), .int (y.2 + x.2)]) := by
          unfold addRun
          rw [List.getLast?_append]
          simp only [List.getLast?_singleton, Option.some_or, if_pos yx, List.dropLast_concat, List.map_append, List.map_cons, List.map_nil]
          rw [List.set_append_right _ _ (by rw [List.length_map]; exact Nat.le_refl _), List.length_map, Nat.sub_self]
          show _ ++ [eRun (y.1, y.2 + x.2)] = _
          rw [yx]
          rfl
        rw [e3]
        exact this.to (tle_lst hl2)
    · have ha1 := e1.keep _ _ (fun z => z) ha
      have hl1 := e1.keep _ _ (fun z => z) hl
      refine s_app (f := f0) (evv_fld rfl ha1 Cc nr cl_runs) hl1 (fun z => z) (ev_tup (ea_cons (ev_var rfl (.str (wd x.1))) (ea_cons (ev_var rfl (.int x.2)) ea_nil))) (by rw [hul]; omega) fun v H2 e2 hv hl2 => ?_
      have ha2 := e2.keep _ _ (fun z => z) ha1
      refine q _ ⟨⟨dx, by rw [upd_ne ar]; exact ha2⟩, ⟨_, upd_same, ?_⟩, ar⟩ ((Keep.of (e1.trans e2)).trans Keep.r)
      have e3 : addRun (t ++ [y]) x = (t ++ [y]) ++ [x] := by
        unfold addRun
        rw [List.getLast?_append]
        simp only [List.getLast?_singleton, Option.some_or]
        rw [if_neg (fun z => by rw [z, beq_self_eq_true] at hb; cases hb)]
      rw [e3, List.map_append]
      exact (((hu.to e1.tup).to e2.tup).snoc hv).to (tle_lst hl2)
theorem ok_Climb_go_to (T : Top mg) (Ca : ClsAt K mg "Climb" C clNames) (A : AtM K C "go_to" "Climb.go_to" s_Climb_go_to ["self", "lead"]) (m_note : FnM P w K mg base 1 C "note" ["self", "word", "many"] (sp_note C)) : FnM P w K mg base 2 C "go_to" ["self", "lead"] (sp_go_to C) := by
  refine A.fn c_Climb_go_to (fun vs H Q E h => by obtain ⟨_, _, _, _, _, _, _, rfl, _⟩ := h; rfl) fun f cdv A outer s H vs Q E hr h => ?_
  obtain ⟨a, r, l, h, d, l2, rs, rfl, ch, hz, q⟩ := h
  have Cc := Ca.cl
  have n1 : NoAttr K C "lead" := Ca.na _ (by decide +kernel)
  have n2 : NoAttr K C "high" := Ca.na _ (by decide +kernel)
  have n3 : NoAttr K C "deep" := Ca.na _ (by decide +kernel)
  refine ⟨_, (pss_cons (ps_if (pt_cmpR op_gt (pv 1) (pe_fld (pv 0) rfl) (nomark _)) (pss_cons (ps_expr (pe_mth m_note Cc (hr.mono (by decide)) (pv 0) (pa_cons pe_str (pa_cons (pe_op op_sub (pv 1) (pe_fld (pv 0) rfl)) pa_nil))))
      (pss_one (ps_fld (pv 0) (pv 1) rfl))) (pss_one (ps_if (pt_cmpR op_lt (pv 1) (pe_un un_neg (pe_fld (pv 0) rfl)) (nomark _)) (pss_cons (ps_expr (pe_mth m_note Cc (hr.mono (by decide)) (pv 0) (pa_cons pe_str (pa_cons (pe_op op_sub (pe_un un_neg (pv 1)) (pe_fld (pv 0) rfl)) pa_nil))))
      (pss_one (ps_fld (pv 0) (pe_un un_neg (pv 1)) rfl))) pss_nil)))
      (pss_one (ps_fld (pv 0) (pv 1) rfl))), ?_⟩
  obtain ⟨dx, ha⟩ := ch.ins
  refine s_ifs (f := f0) (b := decide (l2 > h)) (et_test (ev_ib (ev_var rfl (.int l2)) (ev_fld rfl ha Cc n2 cl_high))) (fun hb H1 e1 => ?_) fun hb H1 e1 => ?_
  · have hb : h < l2 := of_decide_eq_true hb
    replace q := fun H' (c : CHp H' C a r l2 l2 d (addRun rs (true, l2 - h))) k => q H' (by rw [if_pos hb]; exact c) k
    have ch1 := ch.to e1
    obtain ⟨dx1, ha1⟩ := ch1.ins
    refine r_seq (r_drop ⟨_, rfl, a, dx1, _, rfl, ha1, cl_none_note, ?_⟩)
    refine (ea_cons (ev_str (z := "up")) (ea_cons (ev_ii (ev_var rfl (.int l2)) (ev_fld rfl ha1 Cc n2 cl_high)) ea_nil)) H1 (Le.refl _) _ fun vs H2 e2 hv => ?_
    obtain ⟨v1, v2, rfl, hv1, hv2⟩ := dta2 hv
    obtain rfl := hv1.str_eq
    obtain rfl := hv2.int_eq
    refine ⟨a, r, l, h, d, rs, (true, l2 - h), rfl, ch1.to e2, hz, fun H3 c3 k3 => ?_⟩
    obtain ⟨⟨dx3, ha3⟩, ⟨us3, hl3, hu3⟩, ar⟩ := c3
    refine ⟨_, rfl, _, rfl, a, C, dx3, _, rfl, ha3, Cc, n2, Nat.lt_of_sub_eq_succ rfl, ?_⟩
    rw [cl_shigh]
    refine ⟨_, rfl, _, rfl, a, C, dx3, _, rfl, upd_same, Cc, n1, Nat.lt_of_sub_eq_succ rfl, ?_⟩
    rw [cl_slead]
    refine q _ ⟨⟨dx3, upd_same⟩, ⟨us3, by rw [upd_ne (Ne.symm ar), upd_ne (Ne.symm ar)]; exact hl3, ?_⟩, ar⟩ ((((Keep.of (e1.trans e2)).trans k3).trans Keep.a).trans Keep.a)
    exact (hu3.to (tle_ins ha3)).to (tle_ins upd_same)
  · have hb : ¬ h < l2 := of_decide_eq_false hb
    replace q := fun H' c k => q H' (by rw [if_neg hb]; exact c) k
    have ch1 := ch.to e1
    obtain ⟨dx1, ha1⟩ := ch1.ins
    refine s_if (f := f0) (b := decide (l2 < -d)) (et_test (ev_ib (ev_var rfl (.int l2)) (ev_neg (ev_fld rfl ha1 Cc n3 cl_deep)))) (fun hb H2 e2 => ?_) fun hb H2 e2 => ?_
    · have hb : l2 < -d := of_decide_eq_true hb
      replace q := fun H' (c : CHp H' C a r l2 h (-l2) (addRun rs (false, -l2 - d))) k => q H' (by rw [if_pos hb]; exact c) k
      have ch2 := ch1.to e2
      obtain ⟨dx2, ha2⟩ := ch2.ins
      refine r_seq (r_drop ⟨_, rfl, a, dx2, _, rfl, ha2, cl_none_note, ?_⟩)
      refine (ea_cons (ev_str (z := "down")) (ea_cons (ev_ii (ev_neg (ev_var rfl (.int l2))) (ev_fld rfl ha2 Cc n3 cl_deep)) ea_nil)) H2 (Le.refl _) _ fun vs H3 e3 hv => ?_
      obtain ⟨v1, v2, rfl, hv1, hv2⟩ := dta2 hv
      obtain rfl := hv1.str_eq
      obtain rfl := hv2.int_eq
      refine ⟨a, r, l, h, d, rs, (false, -l2 - d), rfl, ch2.to e3, hz, fun H4 c4 k4 => ?_⟩
      obtain ⟨⟨dx4, ha4⟩, ⟨us4, hl4, hu4⟩, ar⟩ := c4
      refine (ev_neg (f := f0) (ev_var rfl (.int l2))).run fun v H5 e5 hv => ?_
      obtain rfl := hv.int_eq
      have ha5 := e5.keep _ _ (fun z => z) ha4
      have hl5 := e5.keep _ _ (fun z => z) hl4
      refine ⟨_, rfl, a, C, dx4, _, rfl, ha5, Cc, n3, Nat.lt_of_sub_eq_succ rfl, ?_⟩
      rw [cl_sdeep]
      refine ⟨_, rfl, _, rfl, a, C, dx4, _, rfl, upd_same, Cc, n1, Nat.lt_of_sub_eq_succ rfl, ?_⟩
      rw [cl_slead]
      refine q _ ⟨⟨dx4, upd_same⟩, ⟨us4, by rw [upd_ne (Ne.symm ar), upd_ne (Ne.symm ar)]; exact hl5, ?_⟩, ar⟩ (((((Keep.of ((e1.trans e2).trans e3)).trans k4).trans (Keep.of e5)).trans Keep.a).trans Keep.a)
      exact ((hu4.to e5.tup).to (tle_ins ha5)).to (tle_ins upd_same)
    · have hb : ¬ l2 < -d := of_decide_eq_false hb
      replace q := fun H' (c : CHp H' C a r l2 h d rs) k => q H' (by rw [if_neg hb]; exact c) k
      obtain ⟨⟨dx2, ha2⟩, ⟨us2, hl2, hu2⟩, ar⟩ := ch1.to e2
      refine ⟨_, rfl, _, rfl, a, C, dx2, _, rfl, ha2, Cc, n1, Nat.lt_of_sub_eq_succ rfl, ?_⟩
      rw [cl_slead]
      exact q _ ⟨⟨dx2, upd_same⟩, ⟨us2, by rw [upd_ne (Ne.symm ar)]; exact hl2, hu2.to (tle_ins ha2)⟩, ar⟩ ((Keep.of (e1.trans e2)).trans Keep.a)
end
end K13
/-! K13I: climb_of .. check_few. -/
namespace K13
open PySem PySem.Spec PyProof.Rows L2 KM
/-- sum((i, j)) -/
def rSumT2 (K : PySem.W.Frag) : List V → Hp → VK → Prop := fun vs H Q => ∃ (a : Addr) (i j : Int), vs = [V.ref a] ∧ SqT K H a [.int i, .int j] ∧ (0 ≤ i ∧ i ≤ 1000 ∧ 0 ≤ j ∧ j ≤ 1000) ∧ Q (.int (i + j)) H
theorem cl_sumT (K : PySem.W.Frag) {X : Cx} (hK : X.K = K) (hc : X.calm = true) : CallR X (.builtin "sum") (rSumT2 K) := by
  subst hK
  intro pins s σ H vs us Q I r h
  obtain ⟨a, i, j, rfl, hs, ⟨b1, b2, b3, b4⟩, q⟩ := h
  obtain ⟨its, rv, p, hz⟩ := I.tuple hs
  rw [Vals.ref1 r]
  obtain ⟨t, u, rfl⟩ := rv.int2
  have hT : s.heap.IsTuple a (intItems #[(i, t), (j, u)]) := by
    have e : (intItems #[(i, t), (j, u)]) = [Value.int i t, Value.int j u].toArray := by simp [intItems]
    rw [e]; exact p
  obtain ⟨ot, ho, _⟩ := id hT
  have hlt := Heap.lt_size ho
  refine call_sum_walk (wpAny_pyIter_tuple hT ?_)
  refine ⟨_, [_, a], [_], _, _, _, numAt #[(i, t), (j, u)], rfl, Walks.tuple (A := X.A.in1) (I.ok.hd hc) _ a (Nat.ne_of_lt hlt) (intItems #[(i, t), (j, u)]), ⟨⟨_, Heap.get?_push_size _ rfl, rfl, rfl⟩, hT.push _⟩, fun c hc => ?_, fun _ _ => intItems_at, fun k hk => ?_, fun h' tk t' hk => ?_⟩
  · show c < (s.heap.push _).objs.size
    rw [Heap.size_push]
    rcases List.mem_cons.mp hc with rfl | hc
    · exact Nat.lt_succ_self _
    · rcases List.mem_cons.mp hc with rfl | hc
      · exact Nat.lt_succ_of_lt hlt
      · cases hc
  · have hk2 : k = 0 ∨ k = 1 := by simp [intItems] at hk; omega
    rcases hk2 with rfl | rfl
    · simp only [InLong, preSum, numAt]
      simp
      omega
    · simp only [InLong, preSum, numAt]
      simp
      omega
  · have e : preSum (numAt #[(i, t), (j, u)]) (intItems #[(i, t), (j, u)]).size = i + j := by
      simp [intItems, preSum, numAt]
    rw [e]
    refine ⟨.int (i + j), H, I.kept fun b o e => hk b o (fun z => ?_) (Heap.get?_push_of_some _ e), ⟨_, rfl⟩, q⟩
    obtain rfl : b = s.heap.objs.size := by simpa using z
    exact Nat.lt_irrefl _ (Heap.lt_size e)
section
variable {f : Fx} {σ : L2.St} {H : Hp} {K : PySem.W.Frag} {ta tb te : TE} {ds es : List PyData} {d e : PyData} {D : Ends}
theorem s_tup2 {n m : Nat} (h : EvD f te σ H (.tuple [d, e])) (k : ∀ x y H1, Le f H H1 → Dt H1 x d → Dt H1 y e → D.nx ((σ.set n (some x)).set m (some y)) H1) : tAsg te (gTup K 2 (gCons (gName n) (gCons (gName m) gNil))) D σ H :=
  r_asg (h H (Le.refl _) _ fun v H1 e1 hv => by
    obtain ⟨a, xs, rfl, ha, hx⟩ := hv.tup_inv
    obtain ⟨x, y, rfl, h1, h2⟩ := dta2 hx
    exact ⟨a, _, rfl, SqT.of ha, rfl, _, _, rfl, _, _, rfl, rfl, k x y H1 e1 h1 h2⟩)
theorem s_set2 {n m : Nat} {tz : TS} (h : EvD f te σ H (.tuple [d, e])) (k : ∀ x y H1, Le f H H1 → Dt H1 x d → Dt H1 y e → tz D ((σ.set n (some x)).set m (some y)) H1) : tSeq (tAsg te (gTup K 2 (gCons (gName n) (gCons (gName m) gNil)))) tz D σ H := s_tup2 (D := { D with nx := tz D }) h k
theorem ev_ixN {i : Int} (ha : EvL f ta σ H ds) (hf : ∀ p, ¬ f.B p) (hb : EvD f tb σ H (.int i)) (hi : atI ds i = some d) : EvD f (tOp (rIxL K) ta tb) σ H d := fun H1 e1 Q q => ha H1 e1 _ fun p vs H2 e2 _ hp hv => hb H2 (e1.trans e2) _ fun w H3 e3 hw => by
  obtain rfl := hw.int_eq
  obtain ⟨v, h1, h2⟩ := atI_map (hv.to e3.tup) hi
  exact ⟨p, vs, i, v, rfl, rfl, SqL.of (e3.keep _ _ (hf p) hp), h1, q v H3 (e2.trans e3) h2⟩
theorem el_cat (ha : EvL f ta σ H ds) (hb : EvL f tb σ H es) (hf : ∀ p, ¬ f.B p) (hz : ds.length + es.length ≤ 1000000) : EvL f (tOp rCat ta tb) σ H (ds ++ es) := fun H1 e1 Q q => ha H1 e1 _ fun p vs H2 e2 hn hp hv => hb H2 (e1.trans e2) _ fun p2 ws H3 e3 _ hp2 hw => by
  refine ⟨p, p2, vs, ws, rfl, rfl, e3.keep _ _ (hf p) hp, hp2, by rw [hv.length, hw.length]; exact small hz, fun r hr => q r _ _ ((e2.trans e3).trans (Le.new hr)) ((e2.trans e3).back (hf r) hr) upd_same (((hv.to e3.tup).app hw).to (TLe.new hr))⟩
theorem el_catV {l : Addr} {us : List V} (ha : EvV f ta σ H (.ref l)) (hl : H l = some (.lst us)) (hu : DtA H us ds) (hb : EvL f tb σ H es) (hf : ∀ p, ¬ f.B p) (hz : ds.length + es.length ≤ 1000000) : EvL f (tOp rCat ta tb) σ H (ds ++ es) := fun H1 e1 Q q => ha H1 e1 _ fun H2 e2 => hb H2 (e1.trans e2) _ fun p2 ws H3 e3 _ hp2 hw => by
  have e := (e1.trans e2).trans e3
  refine ⟨l, p2, us, ws, rfl, rfl, e.keep _ _ (hf l) hl, hp2, by rw [hu.length, hw.length]; exact small hz, fun r hr => q r _ _ ((e2.trans e3).trans (Le.new hr)) ((e2.trans e3).back (hf r) hr) upd_same (((hu.to e.tup).app hw).to (TLe.new hr))⟩
theorem el_var {n : Nat} {l : Addr} {us : List V} (h : σ[n]? = some (some (.ref l))) (hl : H l = some (.lst us)) (hu : DtA H us ds) (hf : ∀ p, ¬ f.B p) : ∀ H1, Le f H H1 → ∀ Q : VK, (∀ H2, Le f H1 H2 → H2 l = some (.lst us) → DtA H2 us ds → Q (.ref l) H2) → tVar n σ H1 Q := fun H1 e1 Q q =>
  ⟨_, h, q H1 (Le.refl _) (e1.keep _ _ (hf l) hl) (hu.to e1.tup)⟩
end
def eShape (on off : Nat) (rs : List Rn1) : PyData := .tuple [.int (on : Int), .int (off : Int), .tuple (rs.map eRun)]
def LadOk (on off : Nat) (rs : List Rn1) : Prop := ∃ h d, LadI rs h d ((off : Int) - on) on
def sp_climb_of (C : Addr) : Sp := fun vs H Q _ => ∃ gs, DtA H vs [eGs gs] ∧ gs.length ≤ 900 ∧ ∀ H' a r h d rs, Same H H' → CHp H' C a r ((offSum gs : Int) - onSum gs) h d rs → LadI rs h d ((offSum gs : Int) - onSum gs) (onSum gs) → rs.length ≤ gs.length → Q (.ref a) H'
def sp_ladder_of : Sp := fun vs H Q _ => ∃ gs, DtA H vs [eGs gs] ∧ gs.length ≤ 900 ∧ ∀ v H' rs, Same H H' → LadOk (onSum gs) (offSum gs) rs → rs.length ≤ gs.length → Dt H' v (.tuple (rs.map eRun)) → Q v H'
def sp_shape_of : Sp := fun vs H Q _ => ∃ gs, DtA H vs [eGs gs] ∧ gs.length ≤ 900 ∧ ∀ v H' rs, Same H H' → LadOk (onSum gs) (offSum gs) rs → rs.length ≤ gs.length → Dt H' v (eShape (onSum gs) (offSum gs) rs) → Q v H'
def sp_gate_to : Sp := fun vs H Q _ => ∃ l g : Int, DtA H vs [.int l, .int g] ∧ RetD H Q (eG (gt l g))
def sp_turnings : Sp := fun vs H Q _ => ∃ on off rs, DtA H vs [eShape on off rs] ∧ rs.length ≤ 900 ∧ ∀ p H', Same H H' → H p = none → H' p = some (.lst ((ends rs ((off : Int) - on)).map V.int)) → Q (.ref p) H'
/-- the normal gates of a shape -/
def Norm (on off n : Nat) (gs : List LG) : Prop := (∀ g ∈ gs, Plain g) ∧ onSum gs + offSum gs = on + off ∧ gs.length ≤ n + 2
def sp_normal_of : Sp := fun vs H Q _ => ∃ on off rs, DtA H vs [eShape on off rs] ∧ rs.length ≤ 900 ∧ LadOk on off rs ∧ ∀ v H' gs, Same H H' → Norm on off rs.length gs → Dt H' v (eGs gs) → Q v H'
def sp_looks_back : Sp := fun vs H Q _ => ∃ gs, DtA H vs [eGs gs] ∧ gs.length ≤ 900 ∧ RetD H Q (.bool true)
def sp_check_few : Sp := fun vs H Q _ => ∃ gs, DtA H vs [eGs gs] ∧ gs.length ≤ 900 ∧ onSum gs + offSum gs ≤ 8 ∧ RetD H Q .none
section
variable {P : Program} {w : World} {K : PySem.W.Frag} {mg : Str → Option Value} {base : Heap} {C : Addr}
theorem ok_climb_of (T : Top mg) (Ca : ClsAt K mg "Climb" C clNames) (A : At K mg "climb_of" s_climb_of ["row"]) (f_late_by : Fn P w K mg base 1 "late_by" ["gate"] sp_late_by) (m_init : FnI P w K mg base 1 C ["self"] (sp_init C)) (m_go_to : FnM P w K mg base 2 C "go_to" ["self", "lead"] (sp_go_to C)) :
    Fn P w K mg base 3 "climb_of" ["row"] (sp_climb_of C) := by
  refine A.fn c_climb_of (fun vs H Q E h => by obtain ⟨_, h, _⟩ := h; exact h.length) fun f cdv A outer s H vs Q E hr h => ?_
  obtain ⟨gs, h, hz, q⟩ := h
  obtain ⟨v, rfl, hd⟩ := dta1 h
  have Cc := Ca.cl
  have n1 : NoAttr K C "lead" := Ca.na _ (by decide +kernel)
  refine ⟨_, (pss_cons (ps_set (i := 1) c_climb_of.nd rfl (.inl rfl) (pe_mak m_init (hr.mono (by decide)) rfl Ca.gl))
      (pss_cons (ps_for PassesOwn.never rfl (pi_tup (pv 0)) (pg_name (i := 2) c_climb_of.nd rfl (.inl rfl)) (pss_one (ps_if (pt_cmpR op_eq (pe_ix (ixT K rfl) (pv 2) pe_int (fun _ _ => rfl)) pe_str (nomark _)) pss_never (pss_cons (ps_asg (pe_fn f_late_by (hr.mono (by decide)) rfl (pa_cons (pv 2) pa_nil)) (pg_tup rfl (pgs_cons (pg_name (i := 3) c_climb_of.nd rfl (.inl rfl)) (pgs_cons (pg_name (i := 4) c_climb_of.nd rfl (.inl rfl)) pgs_nil))))
      (pss_one (ps_expr (pe_mth m_go_to Cc (hr.mono (by decide)) (pv 1) (pa_cons (pe_op op_sub (pe_op op_add (pe_fld (pv 1) rfl) (pv 4)) (pv 3)) pa_nil))))))))
      (pss_one (ps_ret (pv 1))))), ?_⟩
  obtain ⟨ra, us, rfl, hra, hu⟩ := (show Dt H v (.tuple (gs.map eG)) from hd).tup_inv
  have hl : us.length = gs.length := by rw [hu.length, List.length_map]
  refine n_set fun a dx ha hdx dxa => ⟨a, dx, rfl, upd_same, fun H1 r hr1 ch k1 => ⟨rfl, ?_⟩⟩
  have dxra : ra ≠ dx := ne_of_none hra hdx
  have ara : ra ≠ a := ne_of_none hra ha
  have hr0 : H r = none := by
    have ar := ch.ne
    rw [upd_ne (Ne.symm ar)] at hr1
    by_cases e : r = dx
    · rw [e, upd_same] at hr1; cases hr1
    · rw [upd_ne e] at hr1; exact hr1
  have s1 : Same H H1 := fun b o e => k1 b o (ne_of_none e ha) (by rw [upd_ne (ne_of_none e ha), upd_ne (ne_of_none e hdx)]; exact e)
  refine n_for ⟨.ref ra, rfl, ra, rfl, ⟨us, SqT.of (s1 _ _ hra)⟩, ?_⟩
  refine for_it (walk_tup (K := K) (a := ra) (xs := us)) (fun i σ H' => ∃ x3 x4 x5 h d rs, σ = [some (.ref ra), some (.ref a), x3, x4, x5] ∧ Same H H' ∧ CHp H' C a r ((offSum (gs.take i) : Int) - onSum (gs.take i)) h d rs ∧ LadI rs h d ((offSum (gs.take i) : Int) - onSum (gs.take i)) (onSum (gs.take i)) ∧ rs.length ≤ i)
    ⟨_, _, _, 0, 0, [], rfl, s1, ch, LadI.zero, Nat.le_refl _⟩ (fun i σ H' _ h => by obtain ⟨_, _, _, _, _, _, _, h, _⟩ := h; exact SqT.of (h _ _ hra)) (fun i y σ H2 H3 hi h hy => ?_) fun σ H2 h => ?_
  · obtain ⟨x3, x4, x5, h, d, rs, rfl, s2, ch2, lad, hrs⟩ := h
    obtain ⟨rfl, hy⟩ := hy
    obtain ⟨de, hg, hdy⟩ := hu.get' hy
    rw [List.getElem?_map] at hg
    obtain ⟨g, hg2, rfl⟩ := Option.map_eq_some_iff.mp hg
    have hy2 : Dt H3 y (eG g) := hdy.to (same_tup s2)
    obtain ⟨d1, ds, eg⟩ := eG_at g
    have hy3 := hy2
    rw [eg] at hy3
    refine s_if (f := f0) (b := false) ((et_test (ev_eqS (ev_ixT (ev_var rfl hy3) ev_int (atI_nat (j := 0) rfl)) ev_str)).is (nm_times g)) (fun z => by cases z) fun _ H4 e4 => ?_
    refine s_set2 (f := f0) (ev_call (ea_cons (ev_var rfl (hy2.to e4.tup)) ea_nil) (fun H1 vs e hv Q r => ⟨g, hv, r⟩) f0_same) fun w1 w2 H5 e5 hw1 hw2 => ?_
    obtain rfl := hw1.int_eq
    obtain rfl := hw2.int_eq
    have ch5 := (ch2.to e4).to e5
    obtain ⟨dx5, ha5⟩ := ch5.ins
    refine r_drop ⟨_, rfl, a, dx5, _, rfl, ha5, cl_none_goto, ?_⟩
    refine (ea_cons (ev_ii (ev_ii (ev_fld rfl ha5 Cc n1 cl_lead) (ev_var rfl (.int (g.late.2 : Int)))) (ev_var rfl (.int (g.late.1 : Int)))) ea_nil) H5 (Le.refl _) _ fun vs H6 e6 hv => ?_
    obtain ⟨v1, rfl, hv1⟩ := dta1 hv
    obtain rfl := hv1.int_eq
    have ilt : i < gs.length := by omega
    refine ⟨a, r, _, h, d, _, rs, rfl, ch5.to e6, by omega, fun H7 c7 k7 => ?_⟩
    have s7 : Same H H7 := fun b o e => k7 b o (ne_of_none e ha) (ne_of_none e hr0) (le_same ((e4.trans e5).trans e6) b o (s2 b o e))
    have eo := onSum_take hg2
    have ef := offSum_take hg2
    have el : ((offSum (gs.take (i + 1)) : Int) - onSum (gs.take (i + 1))) = ((offSum (gs.take i) : Int) - onSum (gs.take i)) + (g.late.2 : Int) - (g.late.1 : Int) := by rw [eo, ef]; push_cast; omega
    have eo' : (onSum (gs.take (i + 1)) : Int) = onSum (gs.take i) + (g.late.1 : Int) := by rw [eo]; push_cast; rfl
    have al := addRun_len rs
    rw [← el] at c7
    rw [el, eo']
    rw [el] at c7
    by_cases c1 : h < ((offSum (gs.take i) : Int) - onSum (gs.take i)) + (g.late.2 : Int) - (g.late.1 : Int)
    · rw [if_pos c1] at c7
      exact ⟨_, _, _, _, _, _, rfl, s7, c7, lad.up rfl (Int.natCast_nonneg _) (Int.natCast_nonneg _) c1, Nat.le_trans (al _) (Nat.succ_le_succ hrs)⟩
    · rw [if_neg c1] at c7
      by_cases c2 : ((offSum (gs.take i) : Int) - onSum (gs.take i)) + (g.late.2 : Int) - (g.late.1 : Int) < -d
      · rw [if_pos c2] at c7
        exact ⟨_, _, _, _, _, _, rfl, s7, c7, lad.down rfl (Int.natCast_nonneg _) (Int.natCast_nonneg _) c2, Nat.le_trans (al _) (Nat.succ_le_succ hrs)⟩
      · rw [if_neg c2] at c7
        exact ⟨_, _, _, _, _, _, rfl, s7, c7, lad.stay rfl (Int.natCast_nonneg _) (Int.natCast_nonneg _) c1 c2, Nat.le_succ_of_le hrs⟩
  · obtain ⟨x3, x4, x5, h, d, rs, rfl, s2, ch2, lad, hrs⟩ := h
    rw [hl, List.take_length] at ch2 lad
    dsimp only
    refine r_ret ?_
    exact ⟨_, rfl, q H2 a r h d rs s2 ch2 lad (by omega)⟩
theorem ok_ladder_of (T : Top mg) (Ca : ClsAt K mg "Climb" C clNames) (A : At K mg "ladder_of" s_ladder_of ["row"]) (f_climb_of : Fn P w K mg base 3 "climb_of" ["row"] (sp_climb_of C)) : Fn P w K mg base 4 "ladder_of" ["row"] sp_ladder_of := by
  refine A.fn c_ladder_of (fun vs H Q E h => by obtain ⟨_, h, _⟩ := h; exact h.length) fun f cdv A outer s H vs Q E hr h => ?_
  obtain ⟨gs, h, hz, q⟩ := h
  obtain ⟨v, rfl, hd⟩ := dta1 h
  have n4 : NoAttr K C "runs" := Ca.na _ (by decide +kernel)
  refine ⟨_, (pss_one (ps_ret (pe_callTy (cl_tuple K rfl) (by rfl) T.tuple_ (by decide +kernel) (pa_cons (pe_fld (pe_fn f_climb_of (hr.mono (by decide)) rfl (pa_cons (pv 0) pa_nil)) rfl) pa_nil)))), ?_⟩
  refine r_ret (r_cb1 (r_call1 ⟨v, rfl, gs, .cons hd .nil, hz, fun H1 a r h d rs s1 ch lad hl => ?_⟩))
  obtain ⟨⟨dx, ha⟩, ⟨us, hr, hu⟩, ar⟩ := ch
  refine ⟨a, C, dx, _, .ref r, rfl, ha, Ca.cl, n4, cl_runs, r, us, rfl, .inl ⟨SqL.of hr, fun p hp => q _ _ rs (s1.trans (same_new hp)) ⟨h, d, lad⟩ hl (.tup upd_same (hu.to (TLe.new hp)))⟩⟩
theorem ok_shape_of (T : Top mg) (A : At K mg "shape_of" s_shape_of ["row"]) (f_sums_of : Fn P w K mg base 2 "sums_of" ["row"] sp_sums_of) (f_ladder_of : Fn P w K mg base 4 "ladder_of" ["row"] sp_ladder_of) : Fn P w K mg base 5 "shape_of" ["row"] sp_shape_of := by
  refine A.fn c_shape_of (fun vs H Q E h => by obtain ⟨_, h, _⟩ := h; exact h.length) fun f cdv A outer s H vs Q E hr h => ?_
  obtain ⟨gs, h, hz, q⟩ := h
  obtain ⟨v, rfl, hd⟩ := dta1 h
  refine ⟨_, (pss_cons (ps_asg (pe_fn f_sums_of (hr.mono (by decide)) rfl (pa_cons (pv 0) pa_nil)) (pg_tup rfl (pgs_cons (pg_name (i := 1) c_shape_of.nd rfl (.inl rfl)) (pgs_cons (pg_name (i := 2) c_shape_of.nd rfl (.inl rfl)) pgs_nil))))
      (pss_one (ps_ret (pe_tup (pa_cons (pv 1) (pa_cons (pv 2) (pa_cons (pe_fn f_ladder_of (hr.mono (by decide)) rfl (pa_cons (pv 0) pa_nil)) pa_nil))))))), ?_⟩
  refine s_set2 (f := f0) (ev_call (ea_cons (ev_var rfl hd) ea_nil) (fun H1 vs e hv Q r => ⟨gs, hv, by omega, r⟩) f0_same) fun w1 w2 H1 e1 hw1 hw2 => ?_
  obtain rfl := hw1.int_eq
  obtain rfl := hw2.int_eq
  refine r_ret ?_
  refine ⟨_, rfl, _, rfl, r_call1 ⟨v, rfl, gs, .cons (hd.to e1.tup) .nil, hz, fun u H2 rs s2 lo hl hu => ⟨by show 3 ≤ sizeLine; decide, fun p hp => q _ _ rs (((le_same e1).trans s2).trans (same_new hp)) lo hl (.tup upd_same (.cons (.int _) (.cons (.int _) (.cons (hu.to (TLe.new hp)) .nil))))⟩⟩⟩
theorem ok_gate_to (A : At K mg "gate_to" s_gate_to ["lead", "goal"]) : Fn P w K mg base 1 "gate_to" ["lead", "goal"] sp_gate_to := by
  refine A.fn c_gate_to (fun vs H Q E h => by obtain ⟨_, _, h, _⟩ := h; exact h.length) fun f cdv A outer s H vs Q E hr h => ?_
  obtain ⟨l, g, h, q⟩ := h
  obtain ⟨v, u, rfl, h1, h2⟩ := dta2 h
  refine ⟨_, (pss_one (ps_ret (pe_ifExp (pt_cmpR op_gt (pv 1) (pv 0) (nomark _)) (pe_tup (pa_cons pe_str (pa_cons (pe_op op_sub (pv 1) (pv 0)) pa_nil))) (pe_tup (pa_cons pe_str (pa_cons (pe_op op_sub (pv 0) (pv 1)) pa_nil)))))), ?_⟩
  refine s_ret (f := f0) (ev_if (b := decide (g > l)) (d := eG (gt l g)) (et_test (ev_ib (ev_var rfl h2) (ev_var rfl h1))) (fun hb => (ev_tup (ea_cons ev_str (ea_cons (ev_ii (ev_var rfl h2) (ev_var rfl h1)) ea_nil))).is ?_) (fun hb => (ev_tup (ea_cons ev_str (ea_cons (ev_ii (ev_var rfl h1) (ev_var rfl h2)) ea_nil))).is ?_)) fun r H1 e1 hr => q r H1 (le_same e1) hr
  · have hb : l < g := of_decide_eq_true hb
    unfold gt
    rw [if_pos hb]
    show PyData.tuple _ = PyData.tuple _
    rw [Int.toNat_of_nonneg (by omega)]
  · have hb : ¬ l < g := of_decide_eq_false hb
    unfold gt
    rw [if_neg hb]
    show PyData.tuple _ = PyData.tuple _
    rw [Int.toNat_of_nonneg (by omega)]
theorem ok_turnings (T : Top mg) (A : At K mg "turnings" s_turnings ["told"]) : Fn P w K mg base 1 "turnings" ["told"] sp_turnings := by
  refine A.fn c_turnings (fun vs H Q E h => by obtain ⟨_, _, _, h, _⟩ := h; exact h.length) fun f cdv A outer s H vs Q E hr h => ?_
  obtain ⟨on, off, rs, h, hz, q⟩ := h
  obtain ⟨v, rfl, hd⟩ := dta1 h
  refine ⟨_, (pss_cons (ps_set (i := 1) c_turnings.nd rfl (.inl rfl) pe_int)
      (pss_cons (ps_set (i := 2) c_turnings.nd rfl (.inl rfl) pe_int)
      (pss_cons (ps_set (i := 3) c_turnings.nd rfl (.inl rfl) (pe_lst pa_nil))
      (pss_cons (ps_for PassesOwn.never rfl (pi_tup (pe_ix (ixT K rfl) (pv 0) pe_int (fun _ _ => rfl))) (pg_tup rfl (pgs_cons (pg_name (i := 4) c_turnings.nd rfl (.inl rfl)) (pgs_cons (pg_name (i := 5) c_turnings.nd rfl (.inl rfl)) pgs_nil))) (pss_one (ps_if (pt_cmpR op_eq (pv 4) pe_str (nomark _)) (pss_cons (ps_aug (i := 1) c_turnings.nd rfl (.inl rfl) (pv 5) ip_add)
      (pss_one (ps_expr (pe_bmK K rfl PySem.F.plainAttrs_list PySem.F.slot_list_append PySem.F.type_list_append (mt_append) (pv 3) (pa_cons (pv 1) pa_nil))))) (pss_cons (ps_aug (i := 2) c_turnings.nd rfl (.inl rfl) (pv 5) ip_add)
      (pss_one (ps_expr (pe_bmK K rfl PySem.F.plainAttrs_list PySem.F.slot_list_append PySem.F.type_list_append (mt_append) (pv 3) (pa_cons (pe_un un_neg (pv 2)) pa_nil))))))))
      (pss_cons (ps_set (i := 6) c_turnings.nd rfl (.inl rfl) (pe_op op_sub (pe_ix (ixT K rfl) (pv 0) pe_int (fun _ _ => rfl)) (pe_ix (ixT K rfl) (pv 0) pe_int (fun _ _ => rfl))))
      (pss_cons (ps_if (pt_cmpR op_ne (pv 6) (pe_ix (ixL K rfl) (pe_op op_cat (pv 3) (pe_lst (pa_cons pe_int pa_nil))) (pe_ifExp (pt_cmpR op_gt (pe_callB (cl_len K rfl) (by rfl) T.len_ (by decide +kernel) (pa_cons (pv 3) pa_nil)) pe_int (nomark _)) (pe_op op_sub (pe_callB (cl_len K rfl) (by rfl) T.len_ (by decide +kernel) (pa_cons (pv 3) pa_nil)) pe_int) pe_int) (fun _ _ => rfl)) (nomark _)) (pss_one (ps_expr (pe_bmK K rfl PySem.F.plainAttrs_list PySem.F.slot_list_append PySem.F.type_list_append (mt_append) (pv 3) (pa_cons (pv 6) pa_nil)))) pss_nil)
      (pss_one (ps_ret (pv 3))))))))), ?_⟩
  have hd' : Dt H v (.tuple [.int (on : Int), .int (off : Int), .tuple (rs.map eRun)]) := hd
  obtain ⟨rr, hrr⟩ : ∃ rr : PyData, rr = .tuple (rs.map eRun) := ⟨_, rfl⟩
  refine n_set (n_set (n_set ⟨Nat.zero_le _, fun p hp => ?_⟩))
  have s1 : Same H (upd H p (.lst [])) := same_new hp
  have hd1 := hd'.to (same_tup s1)
  have hp1 : (upd H p (.lst [])) p = some (.lst []) := upd_same
  generalize upd H p (.lst []) = H1 at *
  refine n_for ((ev_ixT (f := f0) (ev_var rfl hd1) ev_int rfl).run fun u H2 e2 hu => ?_)
  obtain ⟨ra, us, rfl, hra, huu⟩ := hu.tup_inv
  have hl : us.length = rs.length := by rw [huu.length, List.length_map]
  have s2 := s1.trans (le_same e2)
  have hp2 := e2.keep _ _ (fun z => z) hp1
  refine ⟨ra, rfl, ⟨us, SqT.of hra⟩, ?_⟩
  refine for_it (walk_tup (K := K) (a := ra) (xs := us)) (fun i σ H' => ∃ x4 x5 x6, σ = [some v, some (.int (fsR (rs.take i)).h), some (.int (fsR (rs.take i)).d), some (.ref p), x4, x5, x6] ∧ Same H H' ∧ TLe H2 H' ∧ H' p = some (.lst ((turns (rs.take i)).map V.int)))
    ⟨_, _, _, rfl, s2, TLe.refl _, hp2⟩ (fun i σ H' _ h => by obtain ⟨_, _, _, _, _, h, _⟩ := h; exact SqT.of (h _ _ hra)) (fun i y σ H3 H4 hi h hy => ?_) fun σ H3 h => ?_
  · obtain ⟨x4, x5, x6, rfl, s3, t3, hp3⟩ := h
    obtain ⟨rfl, hy⟩ := hy
    obtain ⟨de, hg, hdy⟩ := huu.get' hy
    rw [List.getElem?_map] at hg
    obtain ⟨g, hg2, rfl⟩ := Option.map_eq_some_iff.mp hg
    obtain ⟨ya, ys, rfl, hya, hys⟩ := (show Dt H4 y (.tuple [.str (wd g.1), .int g.2]) from hdy.to t3).tup_inv
    obtain ⟨w1, w2, rfl, hw1, hw2⟩ := dta2 hys
    obtain rfl := hw1.str_eq
    obtain rfl := hw2.int_eq
    refine ⟨ya, _, rfl, SqT.of hya, rfl, _, _, rfl, _, _, rfl, rfl, ?_⟩
    have tk := KM.take_next hg2
    have ts := (turns_snoc (rs.take i) g).2
    have fsn := fsR_snoc (rs.take i) g
    have tl : (turns (rs.take i)).length ≤ 900 := by
      rw [(turns_ok (rs.take i)).2.2, List.length_take]; omega
    refine s_if (f := f0) (b := g.1) ((et_test (ev_eqS (ev_var rfl (.str (wd g.1))) (ev_str (z := wd true)))).is ?_) (fun hb H5 e5 => ?_) fun hb H5 e5 => ?_
    · rw [wd_eq]; cases g.1 <;> rfl
    · have hp5 := e5.keep _ _ (fun z => z) hp3
      refine s_aug2 (f := f0) rfl (ev_var rfl (.int g.2)) fun H6 e6 => ?_
      have hp6 := e6.keep _ _ (fun z => z) hp5
      refine r_drop ⟨.ref p, rfl, .inl ⟨rfl, _, SqL.of hp6⟩, _, rfl, p, _, _, rfl, rfl, hp6, by rw [List.length_map, sizeLine_eq]; omega, some (.str (wd g.1)), some (.int g.2), x6, ?_, same_mut (s3.trans (le_same (e5.trans e6))) hp, (t3.trans (e5.trans e6).tup).trans (tle_lst hp6), ?_⟩
      · rw [tk, fsn]; simp only [fs1, hb, if_true]; rfl
      · rw [upd_same, tk, ts, List.map_append]; simp only [goal, hb, if_true]; rfl
    · have hp5 := e5.keep _ _ (fun z => z) hp3
      refine s_aug2 (f := f0) rfl (ev_var rfl (.int g.2)) fun H6 e6 => ?_
      have hp6 := e6.keep _ _ (fun z => z) hp5
      refine s_app (f := f0) (evv_var rfl) hp6 (fun z => z) (ev_neg (ev_var rfl (.int _))) (by rw [List.length_map]; omega) fun v7 H7 e7 hv7 hp7 => ?_
      obtain rfl := hv7.int_eq
      refine ⟨some (.str (wd g.1)), some (.int g.2), x6, ?_, same_mut (s3.trans (le_same ((e5.trans e6).trans e7))) hp, (t3.trans ((e5.trans e6).trans e7).tup).trans (tle_lst hp7), ?_⟩
      · rw [tk, fsn]; simp only [fs1, hb, Bool.false_eq_true, if_false]; rfl
      · rw [upd_same, tk, ts, List.map_append]; simp only [goal, hb, Bool.false_eq_true, if_false]; rfl
  · obtain ⟨x4, x5, x6, rfl, s3, t3, hp3⟩ := h
    rw [hl, List.take_length] at hp3
    have tl : (turns rs).length ≤ 900 := by rw [(turns_ok rs).2.2]; exact hz
    have hd3 := (hd1.to e2.tup).to t3
    refine s_set (f := f0) (ev_ii (ev_ixT (ev_var rfl hd3) ev_int rfl) (ev_ixT (ev_var rfl hd3) ev_int rfl)) fun v4 H4 e4 hv4 => ?_
    obtain rfl := hv4.int_eq
    have hp4 := e4.keep _ _ (fun z => z) hp3
    have s4 := s3.trans (le_same e4)
    have hx : atI ((turns rs).map PyData.int ++ [.int 0]) (if decide ((((turns rs).map V.int).length : Int) > 0) = true then (((turns rs).map V.int).length : Int) - 1 else 0) = some (.int (fsR rs).cur) := by
      rw [← (turns_ok rs).2.1, List.length_map]
      rcases List.eq_nil_or_concat (turns rs) with e | ⟨t, y, e⟩
      · rw [e]; rfl
      · rw [e, List.concat_eq_append, lastD_snoc, List.length_append, List.length_singleton]
        rw [if_pos (decide_eq_true (by omega))]
        have : (((t.length + 1 : Nat) : Int) - 1) = (t.length : Nat) := by omega
        rw [this]
        refine atI_nat ?_
        rw [List.map_append, List.append_assoc, List.getElem?_append_right (by rw [List.length_map]; exact Nat.le_refl _), List.length_map, Nat.sub_self]
        rfl
    have hlen : ((((turns rs).map V.int).length : Int) > 0) ∨ ¬ ((((turns rs).map V.int).length : Int) > 0) := Classical.em _
    refine s_when (f := f0) (b := !decide (((off : Int) - on) = (fsR rs).cur)) (et_test (ev_neI (ev_var rfl (.int _)) (ev_ixN (el_catV (es := [.int 0]) (evv_var rfl) hp4 (DtA.of_ints _) (el_lst (ea_cons ev_int ea_nil) f0_no) f0_no (by rw [List.length_map, List.length_singleton]; omega)) f0_no
      (ev_if (b := decide ((((turns rs).map V.int).length : Int) > 0)) (d := .int (if decide ((((turns rs).map V.int).length : Int) > 0) = true then (((turns rs).map V.int).length : Int) - 1 else 0)) (et_test (ev_ib (ev_lenL (evv_var rfl) hp4 (fun z => z)) ev_int)) (fun hb => (ev_ii (ev_lenL (evv_var rfl) hp4 (fun z => z)) ev_int).is (by rw [if_pos hb])) (fun hb => ev_int.is (by rw [if_neg (by rw [hb]; decide)]))) hx))) (fun hb H5 e5 => ?_) fun hb H5 e5 => ?_
    · have hne : ((off : Int) - on) ≠ (fsR rs).cur := by simpa using hb
      have hp5 := e5.keep _ _ (fun z => z) hp4
      refine s_app (f := f0) (evv_var rfl) hp5 (fun z => z) (ev_var rfl (.int _)) (by rw [List.length_map]; omega) fun v7 H7 e7 hv7 hp7 => ?_
      obtain rfl := hv7.int_eq
      dsimp only
      refine r_ret ?_
      refine ⟨_, rfl, q p _ (same_mut (s4.trans (le_same (e5.trans e7))) hp) hp ?_⟩
      rw [upd_same]
      unfold ends
      rw [if_pos hne, List.map_append]
      rfl
    · have heq : ¬ ((off : Int) - on) ≠ (fsR rs).cur := by simpa using hb
      refine r_ret ?_
      refine ⟨_, rfl, q p _ (s4.trans (le_same e5)) hp ?_⟩
      unfold ends
      rw [if_neg heq]
      exact e5.keep _ _ (fun z => z) hp4
/-! normal_of, looks_back, check_few -/
def amt : LG → Int
  | .on n => n
  | .off n => n
  | .mv n => n
  | .slow a _ => a
theorem eG_plain {g : LG} (h : Plain g) : eG g = .tuple [.str (nmG g), .int (amt g)] := by cases g <;> first | rfl | exact h.elim
theorem nm_on : ∀ (t : List Int) (l : Int), (((gates l t).filter fun g => decide (nmG g = "on")).map amt).sum = (onSum (gates l t) : Int)
  | [], l => rfl
  | g :: t, l => by
    have ih := nm_on t g
    show ((((gt l g :: gates g t)).filter fun g => decide (nmG g = "on")).map amt).sum = (((gt l g).late.1 + onSum (gates g t) : Nat) : Int)
    unfold gt
    split
    · rw [List.filter_cons_of_neg (by show ¬ decide (("off" : Str) = "on") = true; rw [ne_off_on]; decide), ih]
      show _ = ((0 + onSum (gates g t) : Nat) : Int)
      rw [Nat.zero_add]
    · rw [List.filter_cons_of_pos (by show decide (("on" : Str) = "on") = true; exact eq_on), List.map_cons, List.sum_cons, ih]
      show (((l - g).toNat : Nat) : Int) + _ = (((l - g).toNat + onSum (gates g t) : Nat) : Int)
      rw [Int.natCast_add]
theorem onSum_mv (n : Nat) (gs : List LG) : onSum (gs ++ [.mv n]) = onSum gs + n := by rw [onSum_app]; rfl
theorem offSum_mv (n : Nat) (gs : List LG) : offSum (gs ++ [.mv n]) = offSum gs + n := by rw [offSum_app]; rfl
theorem ok_normal_of (T : Top mg) (A : At K mg "normal_of" s_normal_of ["told"]) (f_turnings : Fn P w K mg base 1 "turnings" ["told"] sp_turnings) (f_gate_to : Fn P w K mg base 1 "gate_to" ["lead", "goal"] sp_gate_to) : Fn P w K mg base 2 "normal_of" ["told"] sp_normal_of := by
  refine A.fn c_normal_of (fun vs H Q E h => by obtain ⟨_, _, _, h, _⟩ := h; exact h.length) fun f cdv A outer s H vs Q E hr h => ?_
  obtain ⟨on, off, rs, h, hz, ⟨hi, de, lad⟩, q⟩ := h
  obtain ⟨v, rfl, hd⟩ := dta1 h
  refine ⟨_, (pss_cons (ps_set (i := 1) c_normal_of.nd rfl (.inl rfl) (pe_lst pa_nil))
      (pss_cons (ps_set (i := 2) c_normal_of.nd rfl (.inl rfl) pe_int)
      (pss_cons (ps_for PassesOwn.never rfl (pi_list (pe_fn f_turnings (hr.mono (by decide)) rfl (pa_cons (pv 0) pa_nil))) (pg_name (i := 3) c_normal_of.nd rfl (.inl rfl)) (pss_cons (ps_expr (pe_bmK K rfl PySem.F.plainAttrs_list PySem.F.slot_list_append PySem.F.type_list_append (mt_append) (pv 1) (pa_cons (pe_fn f_gate_to (hr.mono (by decide)) rfl (pa_cons (pv 2) (pa_cons (pv 3) pa_nil))) pa_nil)))
      (pss_one (ps_set (i := 2) c_normal_of.nd rfl (.inl rfl) (pv 3)))))
      (pss_cons (ps_set (i := 4) c_normal_of.nd rfl (.inl rfl) (pe_op op_sub (pe_ix (ixT K rfl) (pv 0) pe_int (fun _ _ => rfl)) (pe_callB (cl_sum K rfl rfl) (by rfl) T.sum_ (by decide +kernel) (pa_cons (pe_lc (own := [("word", 5), ("many", 6)]) (g := gTup _ 2 (gCons (gName 5) (gCons (gName 6) (gNil)))) rfl c_normal_of.nd (pi_list (pv 1)) (blkOk_by (own := [("word", 5), ("many", 6)]) (N := n_normal_of) (sc := defScope s_normal_of) (by decide +kernel)) (fun _ _ _ _ _ => (pg_tup rfl (pgs_cons (pg_name (i := 5) c_normal_of.nd rfl (.inl rfl)) (pgs_cons (pg_name (i := 6) c_normal_of.nd rfl (.inl rfl)) pgs_nil)))) (fun _ _ _ _ _ => (pts_one (pt_cmpR op_eq (pv 5) pe_str (nomark _)))) (fun _ _ _ _ _ => (pv 6))) pa_nil))))
      (pss_cons (ps_if (pt_cmpR op_ne (pv 4) pe_int (nomark _)) (pss_one (ps_expr (pe_bmK K rfl PySem.F.plainAttrs_list PySem.F.slot_list_append PySem.F.type_list_append (mt_append) (pv 1) (pa_cons (pe_tup (pa_cons pe_str (pa_cons (pv 4) pa_nil))) pa_nil)))) pss_nil)
      (pss_one (ps_ret (pe_callTy (cl_tuple K rfl) (by rfl) T.tuple_ (by decide +kernel) (pa_cons (pv 1) pa_nil))))))))), ?_⟩
  obtain ⟨n1, n2, n3⟩ := normal_ok (off := (off : Int)) lad rfl
  have el := (ends_ok rs ((off : Int) - on)).2.2
  generalize hes : ends rs ((off : Int) - on) = es at *
  refine n_set ⟨Nat.zero_le _, fun p hp => ?_⟩
  have s1 : Same H (upd H p (.lst [])) := same_new hp
  have hd1 := hd.to (same_tup s1)
  have hp1 : (upd H p (.lst [])) p = some (.lst []) := upd_same
  generalize upd H p (.lst []) = H1 at *
  refine n_set (n_for (r_call1 ⟨v, rfl, on, off, rs, .cons hd1 .nil, hz, fun t H2 s2 ht1 ht => ?_⟩))
  rw [hes] at ht
  have pt : p ≠ t := ne_of_none hp1 ht1
  have ht0 : H t = none := s1.free ht1
  have hp2 := s2 _ _ hp1
  refine ⟨t, rfl, ⟨_, SqL.of ht⟩, ?_⟩
  refine for_it (walk_list (K := K) (a := t) (xs := es.map V.int)) (fun i σ H' => ∃ x3 us, σ = [some v, some (.ref p), some (.int (lastD 0 (es.take i))), x3, none, none, none] ∧ Same H H' ∧ H' t = some (.lst (es.map V.int)) ∧ H' p = some (.lst us) ∧ DtA H' us ((gates 0 (es.take i)).map eG))
    ⟨_, [], rfl, s1.trans s2, ht, hp2, .nil⟩ (fun i σ H' _ h => by obtain ⟨_, _, _, _, h, _⟩ := h; exact SqL.of h) (fun i y σ H3 H4 hi h hy => ?_) fun σ H3 h => ?_
  · obtain ⟨x3, us, rfl, s3, ht3, hp3, hu3⟩ := h
    obtain ⟨rfl, hy⟩ := hy
    rw [List.getElem?_map] at hy
    obtain ⟨g, hg2, rfl⟩ := Option.map_eq_some_iff.mp hy
    have tk := KM.take_next hg2
    have gl : us.length ≤ 901 := by
      rw [hu3.length, List.length_map, gates_len, List.length_take]; omega
    refine r_seq (s_app (f := f0) (evv_var rfl) hp3 (fun z => z) (ev_call (ea_cons (ev_var rfl (.int (lastD 0 (es.take i)))) (ea_cons (ev_var rfl (.int g)) ea_nil)) (fun H1 vs e hv Q r => ⟨_, _, hv, r⟩) f0_same) (by omega) fun v5 H5 e5 hv5 hp5 => ?_)
    refine ⟨_, rfl, some (.int g), us ++ [v5], ?_, same_mut (s3.trans (le_same e5)) hp, ?_, upd_same, ?_⟩
    · rw [tk, lastD_snoc]; rfl
    · rw [upd_ne (Ne.symm pt)]; exact e5.keep _ _ (fun z => z) ht3
    · rw [tk, gates_snoc, List.map_append]
      exact ((hu3.to e5.tup).snoc hv5).to (tle_lst hp5)
  · obtain ⟨x3, us, rfl, s3, ht3, hp3, hu3⟩ := h
    rw [List.length_map, List.take_length] at hu3 ⊢
    have hu4 : DtA H3 us ((gates 0 es).map fun g => .tuple [.str (nmG g), .int (amt g)]) := by
      have e : (gates 0 es).map eG = (gates 0 es).map fun g => PyData.tuple [.str (nmG g), .int (amt g)] := List.map_congr_left fun g hg => eG_plain (gates_plain es 0 g hg)
      rw [← e]; exact hu3
    have hd3 := hd.to (same_tup s3)
    have gl : (gates 0 es).length ≤ 901 := by rw [gates_len]; omega
    have gu : us.length ≤ 901 := by rw [hu3.length, List.length_map]; exact gl
    refine s_set (f := f0) (ev_ii (ev_ixT (ev_var rfl (show Dt H3 v (.tuple [.int (on : Int), .int (off : Int), .tuple (rs.map eRun)]) from hd3)) ev_int rfl)
      (ev_sum (ns := ((gates 0 es).filter fun g => decide (nmG g = "on")).map amt) (by rw [List.map_map]; exact el_lcL2 (gates 0 es) (fun g => .str (nmG g)) (fun g => .int (amt g)) (fun g => decide (nmG g = "on")) _ (evv_var rfl) hp3 hu4 f0_no (by omega) (fun _ _ => rfl) fun x hx v1 v2 H1 e hv1 hv2 => ⟨et_test (ev_eqS (ev_var rfl hv1) ev_str), fun _ => ev_var rfl hv2⟩))) fun v4 H4 e4 hv4 => ?_
    obtain rfl := hv4.int_eq
    rw [nm_on, n2]
    have s4 := s3.trans (le_same e4)
    have hp4 := e4.keep _ _ (fun z => z) hp3
    have hu4 := hu3.to e4.tup
    refine s_when (f := f0) (b := !decide (((on : Int) - desc 0 es) = 0)) (et_test (ev_neI (ev_var rfl (.int _)) ev_int)) (fun hb H5 e5 => ?_) fun hb H5 e5 => ?_
    · have hne : ((on : Int) - desc 0 es) ≠ 0 := by simpa using hb
      have hp5 := e5.keep _ _ (fun z => z) hp4
      refine s_app (f := f0) (evv_var rfl) hp5 (fun z => z) (ev_tup (ea_cons ev_str (ea_cons (ev_var rfl (.int _)) ea_nil))) (by omega) fun v7 H7 e7 hv7 hp7 => ?_
      dsimp only
      refine s_ret (f := f0) (ev_tupL (evv_var rfl) upd_same (fun z => z) (((hu4.to e5.tup).to e7.tup).snoc hv7 |>.to (tle_lst hp7))) fun r H8 e8 hr => ?_
      have en : ((((on : Int) - desc 0 es).toNat : Nat) : Int) = (on : Int) - desc 0 es := Int.toNat_of_nonneg n1
      refine q r H8 (gates 0 es ++ [.mv ((on : Int) - desc 0 es).toNat]) ((same_mut (s4.trans (le_same (e5.trans e7))) hp).trans (le_same e8)) ⟨fun g hg => ?_, ?_, ?_⟩ (hr.is ?_)
      · rcases List.mem_append.mp hg with hg | hg
        · exact gates_plain es 0 g hg
        · obtain rfl := List.mem_singleton.mp hg
          show 1 ≤ _
          omega
      · rw [onSum_mv, offSum_mv]; omega
      · rw [List.length_append, gates_len]; simp only [List.length_singleton]; omega
      · unfold eGs
        rw [List.map_append]
        show _ = PyData.tuple (_ ++ [.tuple [.str "moved", .int ((((on : Int) - desc 0 es).toNat : Nat) : Int)]])
        rw [en]
    · have heq : ((on : Int) - desc 0 es) = 0 := by simpa using hb
      refine s_ret (f := f0) (ev_tupL (evv_var rfl) (e5.keep _ _ (fun z => z) hp4) (fun z => z) (hu4.to e5.tup)) fun r H8 e8 hr => ?_
      exact q r H8 (gates 0 es) ((s4.trans (le_same e5)).trans (le_same e8)) ⟨gates_plain es 0, by omega, by rw [gates_len]; omega⟩ hr
theorem ok_looks_back (T : Top mg) (A : At K mg "looks_back" s_looks_back ["row"]) (f_shape_of : Fn P w K mg base 5 "shape_of" ["row"] sp_shape_of) (f_normal_of : Fn P w K mg base 2 "normal_of" ["told"] sp_normal_of) : Fn P w K mg base 6 "looks_back" ["row"] sp_looks_back := by
  refine A.fn c_looks_back (fun vs H Q E h => by obtain ⟨_, h, _⟩ := h; exact h.length) fun f cdv A outer s H vs Q E hr h => ?_
  obtain ⟨gs, h, hz, q⟩ := h
  obtain ⟨v, rfl, hd⟩ := dta1 h
  refine ⟨_, (pss_one (ps_ret (pe_not (pe_callB (cl_any K rfl rfl) (by rfl) T.any_ (by decide +kernel) (pa_cons (pe_lc (own := [("word", 1), ("ticks", 2)]) (g := gTup _ 2 (gCons (gName 1) (gCons (gName 2) (gNil)))) (tt := tYes) rfl c_looks_back.nd (pi_tup (pe_fn f_normal_of (hr.mono (by decide)) rfl (pa_cons (pe_fn f_shape_of (hr.mono (by decide)) rfl (pa_cons (pv 0) pa_nil)) pa_nil))) (blkOk_by (own := [("word", 1), ("ticks", 2)]) (N := n_looks_back) (sc := defScope s_looks_back) (by decide +kernel)) (fun _ _ _ _ _ => (pg_tup rfl (pgs_cons (pg_name (i := 1) c_looks_back.nd rfl (.inl rfl)) (pgs_cons (pg_name (i := 2) c_looks_back.nd rfl (.inl rfl)) pgs_nil)))) (fun _ _ _ _ _ => pts_nil) (fun _ _ _ _ _ => (pe_and (pe_cmpR op_eq (pv 1) pe_str (nomark _)) (pe_one (pe_cmpR op_lt (pv 2) pe_int (nomark _)))))) pa_nil))))), ?_⟩
  refine r_ret ?_
  refine r_call1 (r_call1 ⟨v, rfl, gs, .cons hd .nil, hz, fun u H1 rs s1 lo hrs hu => ?_⟩)
  refine ⟨onSum gs, offSum gs, rs, .cons hu .nil, by omega, lo, fun g H2 ns s2 nm hg => ?_⟩
  have hg2 : Dt H2 g (.tuple (ns.map fun g => .tuple [.str (nmG g), .int (amt g)])) := by
    have e : ns.map eG = ns.map fun g => PyData.tuple [.str (nmG g), .int (amt g)] := List.map_congr_left fun g hg => eG_plain (nm.1 g hg)
    rw [← e]; exact hg
  have t1 : ns.any (fun _ => false) = false := by simp
  refine (ev_not (ev_any' (K := K) (p := fun _ => false) (xs := ns) (el_mapT2 (K := K) (f := f0) (tl := fun _ H Q => Q g H) (H := H2) ns (fun g => .str (nmG g)) (fun g => .int (amt g)) (fun _ => .bool false) (fun H1 e Q q => q g H1 (Le.refl _) (hg2.to e.tup)) f0_no (by have := nm.2.2; omega) (fun _ _ => rfl) fun x hx v1 v2 H1 e hv1 hv2 =>
    (ev_and (ev_eqS (ev_var rfl hv1) ev_str) fun _ => ev_ib (ev_var rfl hv2) ev_int).is ?_))) H2 (Le.refl _) _ fun r H3 e3 hr => q r H3 ((s1.trans s2).trans (le_same e3)) (hr.is (by rw [t1]; rfl))
  have pl := nm.1 x hx
  have am : decide (amt x < 0) = false := decide_eq_false (by cases x <;> simp only [amt] <;> omega)
  rw [am, Bool.and_false]
theorem ok_check_few (T : Top mg) (A : At K mg "check_few" s_check_few ["row"]) (f_check_row : Fn P w K mg base 6 "check_row" ["thing"] sp_check_row) (f_looks_back : Fn P w K mg base 6 "looks_back" ["row"] sp_looks_back) (f_sums_of : Fn P w K mg base 2 "sums_of" ["row"] sp_sums_of) :
    Fn P w K mg base 7 "check_few" ["row"] sp_check_few := by
  refine A.fn c_check_few (fun vs H Q E h => by obtain ⟨_, h, _⟩ := h; exact h.length) fun f cdv A outer s H vs Q E hr h => ?_
  obtain ⟨gs, h, hz, h8, q⟩ := h
  obtain ⟨v, rfl, hd⟩ := dta1 h
  obtain ⟨tk, g_MOST_LATE⟩ := T.MOST_LATE
  refine ⟨_, (pss_cons (ps_expr (pe_fn f_check_row (hr.mono (by decide)) rfl (pa_cons (pv 0) pa_nil)))
      (pss_cons (ps_if (pt_not (pt_val (pe_fn f_looks_back (hr.mono (by decide)) rfl (pa_cons (pv 0) pa_nil)))) pss_never pss_nil)
      (pss_one (ps_if (pt_cmpR op_gt (pe_callB (cl_sumT K rfl rfl) (by rfl) T.sum_ (by decide +kernel) (pa_cons (pe_fn f_sums_of (hr.mono (by decide)) rfl (pa_cons (pv 0) pa_nil)) pa_nil)) (pe_glob (v := .int 12) (by rfl) g_MOST_LATE ⟨_, rfl⟩) (nomark _)) pss_never pss_nil)))), ?_⟩
  refine s_drop (f := f0) (ev_call (d := .none) (ea_cons (ev_var rfl hd) ea_nil) (fun H1 vs e hv Q r => ⟨gs, hv, by omega, r⟩) f0_same) fun H1 e1 => ?_
  have h1 := hd.to e1.tup
  refine s_when (f := f0) (b := false) ((et_not (et_B (ev_call (d := .bool true) (ea_cons (ev_var rfl h1) ea_nil) (fun H1 vs e hv Q r => ⟨gs, hv, hz, r⟩) f0_same))).is rfl) (fun z => by cases z) fun _ H2 e2 => ?_
  have h2 := h1.to e2.tup
  refine s_if (f := f0) (b := false) ((et_test (ev_ib (i := (onSum gs : Int) + offSum gs) (j := 12) (fun H3 e3 Q q => ?_) ev_int)).is (decide_eq_false (by omega))) (fun z => by cases z) fun _ H3 e3 => q _ H3 (le_same ((e1.trans e2).trans e3)) .non
  refine r_cb1 ((ev_call (f := f0) (d := .tuple [.int (onSum gs : Int), .int (offSum gs : Int)]) (ea_cons (ev_var rfl (h2.to e3.tup)) ea_nil) (fun H1 vs e hv Q r => ⟨gs, hv, by omega, r⟩) f0_same).run fun u H4 e4 hu => ?_)
  obtain ⟨a, us, rfl, ha, hus⟩ := hu.tup_inv
  obtain ⟨w1, w2, rfl, hw1, hw2⟩ := dta2 hus
  obtain rfl := hw1.int_eq
  obtain rfl := hw2.int_eq
  exact ⟨a, _, _, rfl, SqT.of ha, ⟨by omega, by omega, by omega, by omega⟩, q _ H4 e4 (.int _)⟩
end
end K13
/-! K13J: the wide machine. -/
namespace K13
open PySem PySem.Spec PyProof.Rows L2 KM
theorem tuple_mul1 (l : Addr) (items : Array Value) (n : Nat) (dd : Option Addr) (sl : Array (Option Value)) (u : Tok) :
    Meets (Builtin.«tuple.__mul__» ⟨[.ref l, .int 1 u], []⟩) (fun _ R s => s.heap.get? l = some { cls := .type "tuple", dict := dd, data := .seq items n, slots := sl } ∧ R (.ok (.ret (Value.ref l))) s) :=
  .of_wp fun prog w A R s h => by
    obtain ⟨hp, g, d, tk, os⟩ := s
    obtain ⟨hl, h⟩ := h
    have f1 := AutoSeq1.idx_int
    wp_walk using wpAny_loadPart' hl
    exact ⟨_, rfl, h⟩
/-- t * k, by one too -/
def rRepA (K : PySem.W.Frag) : R2 := fun x y H Q => ∃ l k xs, x = .ref l ∧ y = .int k ∧ SqT K H l xs ∧ xs ≠ [] ∧ 1 ≤ k ∧ k ≤ 1000 ∧ xs.length ≤ 1000 ∧ (k = 1 → Q (.ref l) H) ∧ (k ≠ 1 → ∀ p, H p = none → Q (.ref p) (upd H p (.tup (List.replicate k.toNat xs).flatten)))
theorem opRepA (K : PySem.W.Frag) {X : Cx} (hK : X.K = K) : OpR X (binaryOp .Mult) (rRepA K) := by
  subst hK
  intro pins s σ H x y v u Q I rx ry h
  obtain ⟨l, k, xs, rfl, rfl, hT, hne, h1, h2, hz, q1, q2⟩ := h
  by_cases e1 : k = 1
  · subst e1
    cases rx
    obtain ⟨t, rfl⟩ := ry
    obtain ⟨its, r, ⟨⟨cls, dd, data, sl⟩, ho, hc, n, hd⟩, hs⟩ := I.tuple hT
    simp only at hc hd
    subst hc hd
    exact wpAny_binaryOp_repeat_ref (T := "tuple") (U := "int") (by decide) ⟨_, ho, rfl⟩ (fun s' => typeIs_int s' 1 t) noFill_tuple_mul F.fills_int_mul F.slot_int_rmul repeat_tuple F.slot_int_index.lookup
      (call_meets F.slot_int_rmul (typeIs_int s 1 t) F.entry_int_rmul (F.args_int_rmul_2 _ _) (int_rmul_tuple 1 t l its.toArray n dd sl)
        ⟨ho, rfl, ⟨_, ho, rfl⟩, call_meets F.slot_tuple_mul ⟨_, ho, rfl⟩ F.entry_tuple_mul (F.args_tuple_mul_2 _ _) (tuple_mul1 l its.toArray n dd sl t) ⟨ho, .ref l, H, I, rfl, q1 rfl⟩⟩)
  · exact op_repT pins s σ H _ _ v u Q I rx ry ⟨l, k, xs, rfl, rfl, hT, hne, by omega, h2, hz, q2 e1⟩
def cutD (ds : List PyData) (lo hi : Option Int) : List PyData := (ds.drop (HT.sIx ds.length 0 lo)).take (HT.sIx ds.length ds.length hi - HT.sIx ds.length 0 lo)
theorem DtA.drop {H : Hp} : ∀ {vs : List V} {ds : List PyData} (k : Nat), DtA H vs ds → DtA H (vs.drop k) (ds.drop k)
  | _, _, 0, h => h
  | _, _, k + 1, .nil => .nil
  | _, _, k + 1, .cons _ t => DtA.drop k t
theorem DtA.take {H : Hp} : ∀ {vs : List V} {ds : List PyData} (k : Nat), DtA H vs ds → DtA H (vs.take k) (ds.take k)
  | _, _, 0, _ => .nil
  | _, _, k + 1, .nil => .nil
  | _, _, k + 1, .cons h t => .cons h (DtA.take k t)
theorem DtA.rep {H : Hp} {vs : List V} {ds : List PyData} (h : DtA H vs ds) : ∀ n : Nat, DtA H (List.replicate n vs).flatten (List.replicate n ds).flatten
  | 0 => .nil
  | n + 1 => by
    rw [List.replicate_succ, List.replicate_succ, List.flatten_cons, List.flatten_cons]
    exact h.app (DtA.rep h n)
section
variable {f : Fx} {σ : L2.St} {H : Hp} {K : PySem.W.Frag} {ta tb te : TE} {ds es : List PyData} {d e : PyData} {D : Ends} {k : Int}
theorem ev_repA (ha : EvD f ta σ H (.tuple ds)) (hb : EvD f tb σ H (.int k)) (hne : ds ≠ []) (h1 : 1 ≤ k) (h2 : k ≤ 1000) (hz : ds.length ≤ 1000) : EvD f (tOp (rRepA K) ta tb) σ H (.tuple (List.replicate k.toNat ds).flatten) :=
  ev_2 ha hb fun x y H1 hx hy Q q => by
    obtain ⟨a, xs, rfl, g1, g2⟩ := hx.tup_inv
    obtain rfl := hy.int_eq
    refine ⟨a, k, xs, rfl, rfl, SqT.of g1, fun e => ?_, h1, h2, by rw [g2.length]; exact hz, fun e => ?_, fun _ p hp => ?_⟩
    · subst e
      cases g2
      exact hne rfl
    · subst e
      refine q _ H1 (Le.refl _) (.tup g1 ?_)
      have : (List.replicate (1 : Int).toNat ds).flatten = ds := by
        show (List.replicate 1 ds).flatten = ds
        simp
      rw [this]
      exact g2
    · exact q _ _ (Le.new hp) (.tup upd_same ((g2.rep _).to (TLe.new hp)))
/-- a slice's reading, its bounds told -/
def EvO (f : Fx) (t : TO) (σ : L2.St) (H : Hp) (o : Option Int) : Prop := ∀ H1, Le f H H1 → ∀ Q : Option Int → Hp → Prop, (∀ H2, Le f H1 H2 → Q o H2) → t σ H1 Q
theorem eo_none : EvO f tNoPart σ H none := fun H1 _ Q q => q H1 (Le.refl _)
theorem ev_sl {tl th : TO} {lo hi : Option Int} (ha : EvD f ta σ H (.tuple ds)) (hl : EvO f tl σ H lo) (hh : EvO f th σ H hi) : EvD f (tSl (rSlA K) ta tl th) σ H (.tuple (cutD ds lo hi)) := fun H1 e1 Q q =>
  ha H1 e1 _ fun v H2 e2 hv => hl H2 (e1.trans e2) _ fun H3 e3 => hh H3 ((e1.trans e2).trans e3) _ fun H4 e4 => by
    obtain ⟨a, xs, rfl, g1, g2⟩ := (hv.to (e3.trans e4).tup).tup_inv
    have hl := g2.length
    refine ⟨a, xs, rfl, SqT.of g1, fun hw => q _ H4 ((e2.trans e3).trans e4) (.tup g1 ?_), fun _ p hp => q _ _ (((e2.trans e3).trans e4).trans (Le.new hp)) (.tup upd_same ?_)⟩
    · unfold cutD
      rw [← hl, hw.1, hw.2, hl, List.drop_zero, Nat.sub_zero, List.take_length]
      exact g2
    · unfold cutD cutV
      rw [hl]
      exact ((g2.drop _).take _).to (TLe.new hp)
end
theorem rep_bl (b : Bool) : ∀ n : Nat, (List.replicate n [PyData.bool b]).flatten = (List.replicate n b).map PyData.bool
  | 0 => rfl
  | n + 1 => by rw [List.replicate_succ, List.flatten_cons, rep_bl b n, List.replicate_succ]; rfl
/-! data of states -/
def eS : SG → PyData
  | .num n => .int (n : Int)
  | .bits l => eW l
def eSs (ss : List SG) : PyData := .tuple (ss.map eS)
def kS (ss : List SG) : NestedKey := keyOf (eSs ss)
theorem kW_inj : ∀ {l m : List Bool}, keysOf (l.map PyData.bool) = keysOf (m.map PyData.bool) → l = m
  | [], [], _ => rfl
  | [], _ :: _, h => by simp [keysOf] at h
  | _ :: _, [], h => by simp [keysOf] at h
  | a :: l, b :: m, h => by
    simp only [List.map_cons, keysOf, keyOf, List.cons.injEq, NestedKey.num.injEq] at h
    have e : a = b := by
      have := h.1
      cases a <;> cases b <;> simp at this ⊢
    rw [e, kW_inj h.2]
theorem kS_one {g : LG} {s t : SG} (h : SOk g s) (k : SOk g t) (e : keyOf (eS s) = keyOf (eS t)) : s = t := by
  cases g <;> cases s <;> cases t <;> simp only [SOk] at h k <;> simp only [eS, eW, keyOf, NestedKey.num.injEq, NestedKey.tup.injEq] at e
  · rw [Int.ofNat_inj.mp e]
  · rw [Int.ofNat_inj.mp e]
  · rw [kW_inj e]
theorem kSs_inj : ∀ (gs : List LG) (ss ts : List SG), SsOk gs ss → SsOk gs ts → keysOf (ss.map eS) = keysOf (ts.map eS) → ss = ts
  | [], [], [], _, _, _ => rfl
  | g :: gs, s :: ss, t :: ts, h, k, e => by
    simp only [List.map_cons, keysOf, List.cons.injEq] at e
    rw [kS_one h.1 k.1 e.1, kSs_inj gs ss ts h.2 k.2 e.2]
  | [], _ :: _, _, h, _, _ => h.elim
  | _ :: _, [], _, h, _, _ => h.elim
  | [], [], _ :: _, _, k, _ => k.elim
  | _ :: _, _ :: _, [], _, k, _ => k.elim
theorem kS_inj {gs : List LG} {ss ts : List SG} (h : SsOk gs ss) (k : SsOk gs ts) (e : kS ss = kS ts) : ss = ts := by
  unfold kS eSs at e
  simp only [keyOf, NestedKey.tup.injEq] at e
  exact kSs_inj gs ss ts h k e
theorem depthW : ∀ l : List Bool, NestedKey.depthAll (keysOf (l.map PyData.bool)) ≤ 1
  | [] => by simp [keysOf, NestedKey.depthAll]
  | b :: l => by
    have := depthW l
    simp only [List.map_cons, keysOf, keyOf, NestedKey.depthAll, NestedKey.depth]
    omega
theorem depthS (s : SG) : (keyOf (eS s)).depth ≤ 4 := by
  cases s with
  | num n => simp [eS, keyOf, NestedKey.depth]
  | bits l =>
    have := depthW l
    simp only [eS, eW, keyOf, NestedKey.depth]
    omega
theorem depthSs : ∀ ss : List SG, NestedKey.depthAll (keysOf (ss.map eS)) ≤ 4
  | [] => by simp [keysOf, NestedKey.depthAll]
  | s :: ss => by
    have := depthSs ss
    have := depthS s
    simp only [List.map_cons, keysOf, NestedKey.depthAll]
    omega
theorem kS_depth (ss : List SG) : (kS ss).depth ≤ 8 := by
  have := depthSs ss
  unfold kS eSs
  simp only [keyOf, NestedKey.depth]
  omega
structure WInv (l : NL) (W : List (List SG)) : Prop where
  len : l.length = W.length
  at_ : ∀ (i : Nat) (s : List SG), W[i]? = some s → ∃ a, l[i]? = some (kS s, a, .int (i : Int))
def sp_at_first : Sp := fun vs H Q _ => ∃ g, DtA H vs [eG g] ∧ Plain g ∧ onSum [g] + offSum [g] ≤ 8 ∧ RetD H Q (eS (gFirst g))
def sp_gate_step : Sp := fun vs H Q _ => ∃ g s b, DtA H vs [eG g, eS s, .bool b] ∧ SOk g s ∧ (∀ l, s = .bits l → l.length ≤ 1000) ∧ RetD H Q (.tuple [.bool (gStep g s b).1, eS (gStep g s b).2])
def sp_row_step : Sp := fun vs H Q _ => ∃ gs ss b, DtA H vs [eGs gs, eSs ss, .bool b] ∧ SsOk gs ss ∧ gs.length ≤ 1000 ∧ (∀ s ∈ ss, ∀ l, s = .bits l → l.length ≤ 1000) ∧ RetD H Q (.tuple [.bool (rStep gs ss b).1, eSs (rStep gs ss b).2])
def sp_wide : Sp := fun vs H Q _ => ∃ gs, DtA H vs [eGs gs] ∧ (∀ g ∈ gs, Plain g) ∧ gs.length ≤ 1000 ∧ onSum gs + offSum gs ≤ 8 ∧ ∀ v H' M, Same H H' → Ok M → M.length ≤ 256 → Dt H' v (eM M) → Q v H'
def sp_machine_of : Sp := fun vs H Q _ => ∃ on off rs, DtA H vs [eShape on off rs] ∧ rs.length ≤ 900 ∧ LadOk on off rs ∧ on + off ≤ 8 ∧ ∀ v H' L, Same H H' → IsLst L L → L.length ≤ 256 → Dt H' v (eM L) → Q v H'
def sp_machine : Sp := fun vs H Q _ => ∃ gs, DtA H vs [eGs gs] ∧ gs.length ≤ 900 ∧ onSum gs + offSum gs ≤ 8 ∧ ∀ v H' L, Same H H' → IsLst L L → L.length ≤ 256 → Dt H' v (eM L) → Q v H'
section
variable {P : Program} {w : World} {K : PySem.W.Frag} {mg : Str → Option Value} {base : Heap}
theorem ok_at_first (A : At K mg "at_first" s_at_first ["gate"]) : Fn P w K mg base 1 "at_first" ["gate"] sp_at_first := by
  refine A.fn c_at_first (fun vs H Q E h => by obtain ⟨_, h, _⟩ := h; exact h.length) fun f cdv A outer s H vs Q E hr h => ?_
  obtain ⟨g, h, pl, h8, q⟩ := h
  obtain ⟨v, rfl, hd⟩ := dta1 h
  refine ⟨_, (pss_cons (ps_asg (pv 0) (pg_tup rfl (pgs_cons (pg_name (i := 1) c_at_first.nd rfl (.inl rfl)) (pgs_cons (pg_name (i := 2) c_at_first.nd rfl (.inl rfl)) pgs_nil))))
      (pss_cons (ps_if (pt_cmpR op_eq (pv 1) pe_str (nomark _)) (pss_one (ps_ret (pe_op (opRepA K rfl) (pe_tup (pa_cons pe_bl pa_nil)) (pv 2)))) pss_nil)
      (pss_one (ps_ret (pe_ifExp (pt_cmpR op_eq (pv 1) pe_str (nomark _)) (pv 2) pe_int))))), ?_⟩
  rw [eG_plain pl] at hd
  refine s_set2 (f := f0) (ev_var rfl hd) fun w1 w2 H1 e1 hw1 hw2 => ?_
  obtain rfl := hw1.str_eq
  obtain rfl := hw2.int_eq
  cases g with
  | slow a b => exact pl.elim
  | mv n =>
    have hn : n ≤ 8 := by
      have : n + 0 + (n + 0) ≤ 8 := h8
      omega
    have h1n : 1 ≤ n := pl
    refine s_when (f := f0) (b := true) ((et_test (ev_eqS (ev_var rfl (.str "moved")) ev_str)).is eq_mv) (fun _ H2 e2 => ?_) (fun z => by cases z)
    refine s_ret (f := f0) (ev_repA (ev_tup (ea_cons ev_bl ea_nil)) (ev_var rfl (.int (n : Int))) (by simp) (by omega) (by omega) (by simp)) fun r H3 e3 hr => q r H3 (le_same ((e1.trans e2).trans e3)) (hr.is ?_)
    show _ = PyData.tuple _
    rw [Int.toNat_natCast]
    congr 1
    exact rep_bl false n
  | on n =>
    refine s_when (f := f0) (b := false) ((et_test (ev_eqS (ev_var rfl (.str "on")) ev_str)).is ne_on_mv) (fun z => by cases z) fun _ H2 e2 => ?_
    exact s_ret (f := f0) (ev_if (b := false) (d := .int ((0 : Nat) : Int)) ((et_test (ev_eqS (ev_var rfl (.str "on")) ev_str)).is ne_on_off) (fun z => by cases z) fun _ => ev_int) fun r H3 e3 hr => q r H3 (le_same ((e1.trans e2).trans e3)) hr
  | off n =>
    refine s_when (f := f0) (b := false) ((et_test (ev_eqS (ev_var rfl (.str "off")) ev_str)).is ne_off_mv) (fun z => by cases z) fun _ H2 e2 => ?_
    exact s_ret (f := f0) (ev_if (b := true) (d := .int (n : Int)) ((et_test (ev_eqS (ev_var rfl (.str "off")) ev_str)).is eq_off) (fun _ => ev_var rfl (.int (n : Int))) fun z => by cases z) fun r H3 e3 hr => q r H3 (le_same ((e1.trans e2).trans e3)) hr
theorem minNat (n k : Nat) : (if (k : Int) + 1 < (n : Int) then (k : Int) + 1 else (n : Int)) = ((min n (k + 1) : Nat) : Int) := by
  split <;> omega
theorem ok_gate_step (T : Top mg) (A : At K mg "gate_step" s_gate_step ["gate", "state", "flag"]) : Fn P w K mg base 1 "gate_step" ["gate", "state", "flag"] sp_gate_step := by
  refine A.fn c_gate_step (fun vs H Q E h => by obtain ⟨_, _, _, h, _⟩ := h; exact h.length) fun f cdv A outer s H vs Q E hr h => ?_
  obtain ⟨g, sg, b, h, ok, hz, q⟩ := h
  obtain ⟨v, u, x, rfl, hd, hs, hb⟩ := dta3 h
  obtain rfl := hb.bl_eq
  refine ⟨_, (pss_cons (ps_asg (pv 0) (pg_tup rfl (pgs_cons (pg_name (i := 3) c_gate_step.nd rfl (.inl rfl)) (pgs_cons (pg_name (i := 4) c_gate_step.nd rfl (.inl rfl)) pgs_nil))))
      (pss_cons (ps_if (pt_cmpR op_eq (pv 3) pe_str (nomark _)) (pss_one (ps_ret (pe_tup (pa_cons (pe_ix (ixT K rfl) (pv 1) pe_int (fun _ _ => rfl)) (pa_cons (pe_op (opCatA K rfl) (pe_slice (slTupA K rfl) (pv 1) (po_some pe_int) po_none) (pe_tup (pa_cons (pv 2) pa_nil))) pa_nil))))) pss_nil)
      (pss_cons (ps_if (pt_cmpR op_eq (pv 3) pe_str (nomark _)) (pss_one (ps_ret (pe_tup (pa_cons (pe_and (pv 2) (pe_one (pe_cmpR op_eq (pv 1) (pv 4) (nomark _)))) (pa_cons (pe_ifExp (pt_val (pv 2)) (pe_callB (cl_min2 rfl) (by rfl) T.min_ (by decide +kernel) (pa_cons (pv 4) (pa_cons (pe_op op_add (pv 1) pe_int) pa_nil))) pe_int) pa_nil))))) pss_nil)
      (pss_one (ps_ret (pe_tup (pa_cons (pe_or (pv 2) (pe_one (pe_cmpR op_lt (pv 1) (pv 4) (nomark _)))) (pa_cons (pe_ifExp (pt_val (pv 2)) pe_int (pe_callB (cl_min2 rfl) (by rfl) T.min_ (by decide +kernel) (pa_cons (pv 4) (pa_cons (pe_op op_add (pv 1) pe_int) pa_nil)))) pa_nil)))))))), ?_⟩
  have pl : Plain g := by
    cases g with
    | slow a b => cases sg <;> exact ok.elim
    | mv n => cases sg with
      | num k => exact ok.elim
      | bits l => exact ok.2
    | on n => exact True.intro
    | off n => exact True.intro
  rw [eG_plain pl] at hd
  refine s_set2 (f := f0) (ev_var rfl hd) fun w1 w2 H1 e1 hw1 hw2 => ?_
  obtain rfl := hw1.str_eq
  obtain rfl := hw2.int_eq
  have hs1 := hs.to e1.tup
  cases g with
  | slow a b => exact pl.elim
  | mv n =>
    cases sg with
    | num k => exact ok.elim
    | bits l =>
      obtain ⟨c, t, rfl⟩ : ∃ c t, l = c :: t := by
        cases l with
        | nil => have := ok.1; have := ok.2; simp at *; omega
        | cons c t => exact ⟨c, t, rfl⟩
      refine s_when (f := f0) (b := true) ((et_test (ev_eqS (ev_var rfl (.str "moved")) ev_str)).is eq_mv) (fun _ H2 e2 => ?_) (fun z => by cases z)
      have hs2 : Dt H2 u (.tuple (PyData.bool c :: t.map PyData.bool)) := hs1.to e2.tup
      have hz' := hz _ rfl
      have hl : (PyData.bool c :: t.map PyData.bool).length = t.length + 1 := by simp
      refine s_ret (f := f0) (ev_tup (ea_cons (ev_ixT (ev_var rfl hs2) ev_int (atI_nat (j := 0) rfl)) (ea_cons (ev_catT (ev_sl (lo := some 1) (ev_var rfl hs2) (fun H1 e1 Q q => ⟨1, rfl, q H1 (Le.refl _)⟩) eo_none) (ev_tup (ea_cons (ev_var rfl (.bl b)) ea_nil)) ?_) ea_nil))) fun r H3 e3 hr => q r H3 (le_same ((e1.trans e2).trans e3)) (hr.is ?_)
      · unfold cutD
        rw [List.length_take, List.length_drop, hl]
        simp only [List.length_singleton]
        simp at hz'
        omega
      · have e : cutD (PyData.bool c :: t.map PyData.bool) (some 1) none = t.map PyData.bool := by
          unfold cutD
          rw [show HT.sIx (PyData.bool c :: t.map PyData.bool).length 0 (some 1) = min 1 (PyData.bool c :: t.map PyData.bool).length from HT.sIx_nat _ _ 1, HT.sIx_none, hl]
          rw [show min 1 (t.length + 1) = 1 by omega]
          show List.take _ (t.map PyData.bool) = _
          rw [List.take_of_length_le (by rw [List.length_map]; omega)]
        rw [e]
        show _ = PyData.tuple [.bool c, .tuple ((t ++ [b]).map PyData.bool)]
        rw [List.map_append]
        rfl
  | on n =>
    cases sg with
    | bits l => exact ok.elim
    | num k =>
      have hu : Dt H1 u (.int (k : Int)) := hs1
      obtain rfl := hu.int_eq
      refine s_when (f := f0) (b := false) ((et_test (ev_eqS (ev_var rfl (.str "on")) ev_str)).is ne_on_mv) (fun z => by cases z) fun _ H2 e2 => ?_
      refine s_when (f := f0) (b := true) ((et_test (ev_eqS (ev_var rfl (.str "on")) ev_str)).is eq_on) (fun _ H3 e3 => ?_) (fun z => by cases z)
      refine s_ret (f := f0) (ev_tup (ea_cons (ev_and (ev_var rfl (.bl b)) fun _ => ev_eqI (ev_var rfl (.int (k : Int))) (ev_var rfl (.int (n : Int)))) (ea_cons (ev_if (b := b) (d := .int (if b = true then if (k : Int) + 1 < (n : Int) then (k : Int) + 1 else (n : Int) else 0)) (et_B (ev_var rfl (.bl b)))
        (fun hb => (ev_min2 (ev_var rfl (.int (n : Int))) (ev_ii (ev_var rfl (.int (k : Int))) ev_int)).is (by rw [if_pos hb])) (fun hb => ev_int.is (by rw [hb]; rfl))) ea_nil))) fun r H4 e4 hr => q r H4 (le_same (((e1.trans e2).trans e3).trans e4)) (hr.is ?_)
      rw [minNat]
      have e5 : decide ((k : Int) = (n : Int)) = decide (k = n) := decide_eq_decide.mpr Int.ofNat_inj
      rw [e5]
      cases b <;> rfl
  | off n =>
    cases sg with
    | bits l => exact ok.elim
    | num k =>
      have hu : Dt H1 u (.int (k : Int)) := hs1
      obtain rfl := hu.int_eq
      refine s_when (f := f0) (b := false) ((et_test (ev_eqS (ev_var rfl (.str "off")) ev_str)).is ne_off_mv) (fun z => by cases z) fun _ H2 e2 => ?_
      refine s_when (f := f0) (b := false) ((et_test (ev_eqS (ev_var rfl (.str "off")) ev_str)).is ne_off_on) (fun z => by cases z) fun _ H3 e3 => ?_
      refine s_ret (f := f0) (ev_tup (ea_cons (ev_or (ev_var rfl (.bl b)) fun _ => ev_ib (ev_var rfl (.int (k : Int))) (ev_var rfl (.int (n : Int)))) (ea_cons (ev_if (b := b) (d := .int (if b = true then 0 else if (k : Int) + 1 < (n : Int) then (k : Int) + 1 else (n : Int))) (et_B (ev_var rfl (.bl b)))
        (fun hb => ev_int.is (by rw [if_pos hb])) (fun hb => (ev_min2 (ev_var rfl (.int (n : Int))) (ev_ii (ev_var rfl (.int (k : Int))) ev_int)).is (by rw [hb]; rfl))) ea_nil))) fun r H4 e4 hr => q r H4 (le_same (((e1.trans e2).trans e3).trans e4)) (hr.is ?_)
      rw [minNat]
      have e5 : decide ((k : Int) < (n : Int)) = decide (k < n) := by simp
      rw [e5]
      cases b <;> rfl
theorem ok_row_step (T : Top mg) (A : At K mg "row_step" s_row_step ["gates", "states", "flag"]) (f_gate_step : Fn P w K mg base 1 "gate_step" ["gate", "state", "flag"] sp_gate_step) : Fn P w K mg base 2 "row_step" ["gates", "states", "flag"] sp_row_step := by
  refine A.fn c_row_step (fun vs H Q E h => by obtain ⟨_, _, _, h, _⟩ := h; exact h.length) fun f cdv A outer s H vs Q E hr h => ?_
  obtain ⟨gs, ss, b, h, ok, hz, hzb, q⟩ := h
  obtain ⟨v, u, x, rfl, hd, hs, hb⟩ := dta3 h
  obtain rfl := hb.bl_eq
  refine ⟨_, (pss_cons (ps_set (i := 3) c_row_step.nd rfl (.inl rfl) (pe_lst pa_nil))
      (pss_cons (ps_for PassesOwn.never rfl (RZ.pi_zipA (by rfl) T.zip_ (pa_cons (pv 0) (pa_cons (pv 1) pa_nil))) (pg_tup rfl (pgs_cons (pg_name (i := 4) c_row_step.nd rfl (.inl rfl)) (pgs_cons (pg_name (i := 5) c_row_step.nd rfl (.inl rfl)) pgs_nil))) (pss_cons (ps_asg (pe_fn f_gate_step (hr.mono (by decide)) rfl (pa_cons (pv 4) (pa_cons (pv 5) (pa_cons (pv 2) pa_nil)))) (pg_tup rfl (pgs_cons (pg_name (i := 2) c_row_step.nd rfl (.inl rfl)) (pgs_cons (pg_name (i := 6) c_row_step.nd rfl (.inl rfl)) pgs_nil))))
      (pss_one (ps_expr (pe_bmK K rfl PySem.F.plainAttrs_list PySem.F.slot_list_append PySem.F.type_list_append (mt_append) (pv 3) (pa_cons (pv 6) pa_nil))))))
      (pss_one (ps_ret (pe_tup (pa_cons (pv 2) (pa_cons (pe_callTy (cl_tuple K rfl) (by rfl) T.tuple_ (by decide +kernel) (pa_cons (pv 3) pa_nil)) pa_nil))))))), ?_⟩
  obtain ⟨ga, gv, rfl, hga, hgv⟩ := (show Dt H v (.tuple (gs.map eG)) from hd).tup_inv
  obtain ⟨sa, sv, rfl, hsa, hsv⟩ := (show Dt H u (.tuple (ss.map eS)) from hs).tup_inv
  have lg : gv.length = gs.length := by rw [hgv.length, List.length_map]
  have ls : sv.length = ss.length := by rw [hsv.length, List.length_map]
  have lgs := ok.len
  refine n_set ⟨Nat.zero_le _, fun p hp => ?_⟩
  have s1 : Same H (upd H p (.lst [])) := same_new hp
  have hp1 : (upd H p (.lst [])) p = some (.lst []) := upd_same
  generalize upd H p (.lst []) = H1 at *
  refine n_for ⟨_, rfl, _, rfl, ga, sa, gv, sv, rfl, .inr ⟨SqT.of (s1 _ _ hga), SqT.of (s1 _ _ hsa), ?_⟩⟩
  refine RZ.for_zipT (xs := gv) (ys := sv) (by omega) (fun i σ H' => ∃ x4 x5 x6 us, σ = [some (.ref ga), some (.ref sa), some (.bl (rStep (gs.take i) (ss.take i) b).1), some (.ref p), x4, x5, x6] ∧ Same H H' ∧ H' p = some (.lst us) ∧ DtA H' us ((rStep (gs.take i) (ss.take i) b).2.map eS))
    ⟨_, _, _, [], rfl, s1, hp1, .nil⟩ (fun i σ H' h => by obtain ⟨_, _, _, _, _, h, _⟩ := h; exact ⟨SqT.of (h _ _ hga), SqT.of (h _ _ hsa)⟩) (fun i y z t σ H2 hy hz' h ht => ?_) fun σ H2 h => ?_
  · obtain ⟨x4, x5, x6, us, rfl, s2, hp2, hu2⟩ := h
    obtain ⟨dg, hg, hdy⟩ := hgv.get' hy
    rw [List.getElem?_map] at hg
    obtain ⟨g, hg2, rfl⟩ := Option.map_eq_some_iff.mp hg
    obtain ⟨dz, hz2, hdz⟩ := hsv.get' hz'
    rw [List.getElem?_map] at hz2
    obtain ⟨sg, hsg, rfl⟩ := Option.map_eq_some_iff.mp hz2
    have s3 : Same H (upd H2 t (.tup [y, z])) := s2.trans (same_new ht)
    have dy3 := hdy.to (same_tup s3)
    have dz3 := hdz.to (same_tup s3)
    have pt : p ≠ t := ne_of_none hp2 ht
    have hp3 : (upd H2 t (.tup [y, z])) p = some (.lst us) := by rw [upd_ne pt]; exact hp2
    have hu3 := hu2.to (TLe.new (o := .tup [y, z]) ht)
    refine ⟨t, _, rfl, SqT.of upd_same, rfl, _, _, rfl, _, _, rfl, rfl, ?_⟩
    generalize upd H2 t (.tup [y, z]) = H3 at *
    have ilt := (List.getElem?_eq_some_iff.mp hg2).1
    have ap : rStep (gs.take (i + 1)) (ss.take (i + 1)) b = ((gStep g sg (rStep (gs.take i) (ss.take i) b).1).1, (rStep (gs.take i) (ss.take i) b).2 ++ [(gStep g sg (rStep (gs.take i) (ss.take i) b).1).2]) := by
      rw [KM.take_next hg2, KM.take_next hsg, rStep_app _ _ _ _ _ (by rw [List.length_take, List.length_take, lgs])]
      rfl
    have ul : us.length ≤ 1000 := by
      rw [hu2.length, List.length_map]
      have := (rStep_ok (gs.take i) (ss.take i) b)
      have h4 : SsOk (gs.take i) (ss.take i) := ok.take i
      have := (this h4).len
      rw [List.length_take] at this
      omega
    refine s_set2 (f := f0) (ev_call (ea_cons (ev_var rfl dy3) (ea_cons (ev_var rfl dz3) (ea_cons (ev_var rfl (.bl _)) ea_nil))) (fun H1 vs e hv Q r => ⟨g, sg, _, hv, ok.at hg2 hsg, fun l e => hzb sg (List.mem_of_getElem? hsg) l e, r⟩) f0_same) fun w1 w2 H4 e4 hw1 hw2 => ?_
    obtain rfl := hw1.bl_eq
    have hp4 := e4.keep _ _ (fun z => z) hp3
    refine s_app (f := f0) (evv_var rfl) hp4 (fun z => z) (ev_var rfl hw2) (by omega) fun v5 H5 e5 hv5 hp5 => ?_
    refine ⟨some y, some z, some w2, us ++ [v5], ?_, same_mut (s3.trans (le_same (e4.trans e5))) hp, upd_same, ?_⟩
    · rw [ap]; rfl
    · rw [ap, List.map_append]
      exact (((hu3.to (e4.trans e5).tup).snoc hv5)).to (tle_lst hp5)
  · obtain ⟨x4, x5, x6, us, rfl, s2, hp2, hu2⟩ := h
    rw [lg, List.take_length, lgs, List.take_length] at hu2 ⊢
    refine s_ret (f := f0) (ev_tup (ea_cons (ev_var rfl (.bl _)) (ea_cons (ev_tupL (evv_var rfl) hp2 (fun z => z) hu2) ea_nil))) fun r H3 e3 hr => q r H3 (s2.trans (le_same e3)) hr
end
end K13
/-! K13L: wide_machine, machine_of, machine. -/
namespace K13
open PySem PySem.Spec PyProof.Rows L2 KM
theorem late_le {gs : List LG} {g : LG} (h : g ∈ gs) : onSum [g] + offSum [g] ≤ onSum gs + offSum gs := by
  obtain ⟨i, hi⟩ := List.mem_iff_getElem?.mp h
  have h1 := onSum_take hi
  have h2 := offSum_take hi
  have h3 := onSum_le gs (i + 1)
  have h4 := offSum_le gs (i + 1)
  show g.late.1 + 0 + (g.late.2 + 0) ≤ _
  omega
section
variable {H H' : Hp} {l : NL} {W : List (List SG)} {gs : List LG}
theorem WInv.key (h : WInv l W) {i : Nat} {k : NestedKey} (hk : (l.map (·.1))[i]? = some k) : ∃ s, W[i]? = some s ∧ k = kS s := by
  rw [List.getElem?_map] at hk
  obtain ⟨x, hx, rfl⟩ := Option.map_eq_some_iff.mp hk
  have hl := (List.getElem?_eq_some_iff.mp hx).1
  have he : W[i]? = some (W[i]'(by rw [← h.len]; exact hl)) := by simp [← h.len, hl]
  obtain ⟨a, h1⟩ := h.at_ i _ he
  rw [hx] at h1
  have := Option.some.inj h1
  subst this
  exact ⟨_, he, rfl⟩
theorem WInv.nodup (h : WInv l W) (hn : W.Nodup) (ok : ∀ s ∈ W, SsOk gs s) : (l.map (·.1)).Nodup := nodup_of_ix _ fun i j x hi hj => by
  obtain ⟨u, hu, rfl⟩ := h.key hi
  obtain ⟨v, hv, e⟩ := h.key hj
  have := kS_inj (ok u (List.mem_of_getElem? hu)) (ok v (List.mem_of_getElem? hv)) e
  subst this
  exact ix_of_nodup hn hu hv
theorem WInv.has (h : WInv l W) (ok : ∀ s ∈ W, SsOk gs s) {s : List SG} (hs : SsOk gs s) {v : V} (hv : valN l (kS s) = some v) : ∃ i : Nat, W[i]? = some s ∧ v = .int (i : Int) := by
  obtain ⟨q, a, hq⟩ := valN_some hv
  obtain ⟨u, hu, e⟩ := h.key (i := q) (k := kS s) (by rw [List.getElem?_map, hq]; rfl)
  have := kS_inj hs (ok u (List.mem_of_getElem? hu)) e
  subst this
  obtain ⟨a', h1⟩ := h.at_ q _ hu
  rw [hq] at h1
  cases h1
  exact ⟨q, hu, rfl⟩
theorem WInv.hasnt (h : WInv l W) {s : List SG} (hv : valN l (kS s) = none) : s ∉ W := fun hm => by
  obtain ⟨i, hi⟩ := List.mem_iff_getElem?.mp hm
  obtain ⟨a, h1⟩ := h.at_ i s hi
  exact valN_none hv (List.mem_map.mpr ⟨_, List.mem_of_getElem? h1, rfl⟩)
theorem WInv.snoc (h : WInv l W) {s : List SG} {a : Addr} : WInv (l ++ [(kS s, a, .int (W.length : Int))]) (W ++ [s]) := by
  refine ⟨by rw [List.length_append, List.length_append, h.len]; rfl, fun i t ht => ?_⟩
  rcases snoc_get ht with ⟨h1, ht⟩ | ⟨h1, rfl⟩
  · obtain ⟨a', g1⟩ := h.at_ i t ht
    exact ⟨a', at_app g1⟩
  · exact ⟨a, by rw [h1, ← h.len]; simp⟩
end
theorem nodup_snoc {α : Type} {l : List α} {x : α} (h : l.Nodup) (hx : x ∉ l) : (l ++ [x]).Nodup := by
  rw [List.nodup_append]
  exact ⟨h, by simp, fun a ha b hb e => hx (by simp at hb; rw [← hb, ← e]; exact ha)⟩
/-- the sides made at a turn -/
def sidesOf (i : Nat) (a b : Side) : List Side := [a, b].take i
def WTurn (P : Program) (w : World) (gs : List LG) (fv : List V) (F : Mach) (W : List (List SG)) (ss : List SG) (v : V) (ba c wl fd sd tf : Addr) (x9 : Option V) (H : Hp) (i : Nat) (σ' : L2.St) (H' : Hp) : Prop :=
  ∃ (l : NL) (wv sv : List V) (W' : List (List SG)) (sides : List Side) (x6 x7 x8 : Option V), σ' = [some v, some (.ref ba), some (.ref c), some (.ref wl), some (.ref fd), some (.ref sd), x6, x7, x8, x9] ∧ Same H H' ∧ Dt H' v (eGs gs) ∧ ND P w H' c l ∧ H' wl = some (.lst wv) ∧ DtA H' wv (W'.map eSs) ∧
        H' fd = some (.lst fv) ∧ DtA H' fv (F.map eRow) ∧ H' sd = some (.lst sv) ∧ DtA H' sv (sides.map eSide) ∧ H' tf = some (.tup [.bl false, .bl true]) ∧ WInv l W' ∧ W'.Nodup ∧ (∀ s ∈ W', SsOk gs s) ∧ W.length ≤ W'.length ∧ W'[F.length]? = some ss ∧ sides.length = i ∧ (∀ z ∈ sides, z.2 < W'.length)
section
variable {P : Program} {w : World} {K : PySem.W.Frag} {mg : Str → Option Value} {base : Heap}
theorem ok_wide_machine (T : Top mg) (A : At K mg "wide_machine" s_wide_machine ["gates"]) (f_at_first : Fn P w K mg base 1 "at_first" ["gate"] sp_at_first) (f_row_step : Fn P w K mg base 2 "row_step" ["gates", "states", "flag"] sp_row_step) : Fn P w K mg base 3 "wide_machine" ["gates"] sp_wide := by
  refine A.fn c_wide_machine (fun vs H Q E h => by obtain ⟨_, h, _⟩ := h; exact h.length) fun f cdv A outer s H vs Q E hr h => ?_
  obtain ⟨gs, h, pl, hz, h8, q⟩ := h
  obtain ⟨v, rfl, hd⟩ := dta1 h
  refine ⟨_, (pss_cons (ps_set (i := 1) c_wide_machine.nd rfl (.inl rfl) (pe_callTy (cl_tuple K rfl) (by rfl) T.tuple_ (by decide +kernel) (pa_cons (pe_lc (own := [("gate", 9)]) (g := gName 9) (tt := tYes) rfl c_wide_machine.nd (pi_tup (pv 0)) (blkOk_by (own := [("gate", 9)]) (N := n_wide_machine) (sc := defScope s_wide_machine) (by decide +kernel)) (fun _ _ _ _ _ => (pg_name (i := 9) c_wide_machine.nd rfl (.inl rfl))) (fun _ _ _ _ _ => pts_nil) (fun _ _ _ _ _ => (pe_fn f_at_first (hr.mono (by decide)) rfl (pa_cons (pv 9) pa_nil)))) pa_nil)))
      (pss_cons (ps_set (i := 2) c_wide_machine.nd rfl (.inl rfl) (peDispN P w rfl rfl hr.units (pv 1) pe_int))
      (pss_cons (ps_set (i := 3) c_wide_machine.nd rfl (.inl rfl) (pe_lst (pa_cons (pv 1) pa_nil)))
      (pss_cons (ps_set (i := 4) c_wide_machine.nd rfl (.inl rfl) (pe_lst pa_nil))
      (pss_cons (ps_while PassesOwn.never (pt_cmpR op_lt (pe_callB (cl_len K rfl) (by rfl) T.len_ (by decide +kernel) (pa_cons (pv 4) pa_nil)) (pe_callB (cl_len K rfl) (by rfl) T.len_ (by decide +kernel) (pa_cons (pv 3) pa_nil)) (nomark _)) (pss_cons (ps_set (i := 5) c_wide_machine.nd rfl (.inl rfl) (pe_lst pa_nil))
      (pss_cons (ps_for PassesOwn.never rfl (pi_tup (pe_tup (pa_cons pe_bl (pa_cons pe_bl pa_nil)))) (pg_name (i := 6) c_wide_machine.nd rfl (.inl rfl)) (pss_cons (ps_asg (pe_fn f_row_step (hr.mono (by decide)) rfl (pa_cons (pv 0) (pa_cons (pe_ix (ixL K rfl) (pv 3) (pe_callB (cl_len K rfl) (by rfl) T.len_ (by decide +kernel) (pa_cons (pv 4) pa_nil)) (fun _ _ => rfl)) (pa_cons (pv 6) pa_nil)))) (pg_tup rfl (pgs_cons (pg_name (i := 7) c_wide_machine.nd rfl (.inl rfl)) (pgs_cons (pg_name (i := 8) c_wide_machine.nd rfl (.inl rfl)) pgs_nil))))
      (pss_cons (ps_if (pt_cmp (pcNinN P w rfl rfl hr.units (pv 8) (pv 2)) (by rfl)) (pss_cons (psPutN P w rfl rfl hr.units (pv 2) (pv 8) (pe_callB (cl_len K rfl) (by rfl) T.len_ (by decide +kernel) (pa_cons (pv 3) pa_nil)) rfl)
      (pss_one (ps_expr (pe_bmK K rfl PySem.F.plainAttrs_list PySem.F.slot_list_append PySem.F.type_list_append (mt_append) (pv 3) (pa_cons (pv 8) pa_nil))))) pss_nil)
      (pss_one (ps_expr (pe_bmK K rfl PySem.F.plainAttrs_list PySem.F.slot_list_append PySem.F.type_list_append (mt_append) (pv 5) (pa_cons (pe_tup (pa_cons (pv 7) (pa_cons (peGetN P w rfl rfl hr.units (pv 2) (pv 8) (fun _ _ => rfl)) pa_nil))) pa_nil)))))))
      (pss_one (ps_expr (pe_bmK K rfl PySem.F.plainAttrs_list PySem.F.slot_list_append PySem.F.type_list_append (mt_append) (pv 4) (pa_cons (pe_callTy (cl_tuple K rfl) (by rfl) T.tuple_ (by decide +kernel) (pa_cons (pv 5) pa_nil)) pa_nil)))))))
      (pss_one (ps_ret (pe_callTy (cl_tuple K rfl) (by rfl) T.tuple_ (by decide +kernel) (pa_cons (pv 4) pa_nil))))))))), ?_⟩
  have bits8 : ∀ ss, SsOk gs ss → ∀ s ∈ ss, ∀ l, s = SG.bits l → l.length ≤ 1000 := by
    intro ss ok s hs l e
    subst e
    obtain ⟨i, hi⟩ := List.mem_iff_getElem?.mp hs
    have il := (List.getElem?_eq_some_iff.mp hi).1
    have lg := ok.len
    have hg : gs[i]? = some (gs[i]'(by omega)) := by simp
    have ok1 := ok.at hg hi
    have ll := late_le (List.mem_of_getElem? hg)
    generalize (gs[i]'(by omega)) = g at ok1 ll
    cases g with
    | mv n =>
      have h1 : n + 0 + (n + 0) ≤ _ := ll
      have := ok1.1
      omega
    | on n => exact ok1.elim
    | off n => exact ok1.elim
    | slow a b => exact ok1.elim
  refine s_set (f := f0) (ev_tupN (el_mapT1 gs eG (fun g => eS (gFirst g)) (ev_var rfl hd) f0_no (by omega) (fun _ => rfl) fun x hx v H1 e hv => ev_call (ea_cons (ev_var rfl hv) ea_nil) (fun H1 vs e hv Q r => ⟨x, hv, pl x hx, by have := late_le hx; omega, r⟩) f0_same)) fun bv H1 e1 hb1 => ?_
  have hb1 : Dt H1 bv (eSs (gs.map gFirst)) := hb1.is (by unfold eSs; rw [List.map_map]; rfl)
  have ok0 := first_ok gs pl
  have hd1 := hd.to e1.tup
  have s1 := le_same e1
  obtain ⟨ba, bs, rfl, hba, hbs⟩ := (show Dt H1 bv (.tuple _) from hb1).tup_inv
  -- numbers = {begin: 0}
  refine n_set fun c nc => ?_
  have nc0 : H c = none := s1.free nc
  have hb2 := hb1.to (TLe.new (o := NDO P w c []) nc)
  have s2 : Same H (upd H1 c (NDO P w c [])) := s1.trans (same_new nc)
  have hd2 := hd1.to (TLe.new (o := NDO P w c []) nc)
  have h2 : (upd H1 c (NDO P w c [])) c = some (NDO P w c []) := upd_same
  generalize upd H1 c (NDO P w c []) = H2 at *
  have nk2 : NK H2 (kS (gs.map gFirst)) ba := ⟨_, hb2, rfl, kS_depth _⟩
  refine ⟨_, rfl, ba, _, rfl, nk2, h2, ?_⟩
  have nd3 : ND P w (upd H2 c (NDO P w c [(kS (gs.map gFirst), ba, .int 0)])) c [(kS (gs.map gFirst), ba, .int 0)] := ND.snoc (l := []) ⟨h2, fun _ z => nomatch z⟩ nk2
  have t3 : TLe H2 (upd H2 c (NDO P w c [(kS (gs.map gFirst), ba, .int 0)])) := TLe.set h2 fun _ z => by cases z
  have s3 : Same H (upd H2 c (NDO P w c [(kS (gs.map gFirst), ba, .int 0)])) := same_mut s2 nc0
  have hb3 := hb2.to t3
  have hd3 := hd2.to t3
  generalize upd H2 c (NDO P w c [(kS (gs.map gFirst), ba, .int 0)]) = H3 at *
  -- waiting = [begin]
  refine n_set ⟨_, rfl, by show 1 ≤ sizeLine; decide, fun wl nw => ?_⟩
  have nw0 : H wl = none := s3.free nw
  have cw : c ≠ wl := ne_of_none nd3.at_ nw
  have s4 : Same H (upd H3 wl (.lst [.ref ba])) := s3.trans (same_new nw)
  have nd4 := nd3.to (TLe.new (o := .lst [.ref ba]) nw) (upd_ne cw)
  have hb4 := hb3.to (TLe.new (o := .lst [.ref ba]) nw)
  have hd4 := hd3.to (TLe.new (o := .lst [.ref ba]) nw)
  have hw4 : (upd H3 wl (.lst [.ref ba])) wl = some (.lst [.ref ba]) := upd_same
  generalize upd H3 wl (.lst [.ref ba]) = H4 at *
  -- found = []
  refine n_set ⟨Nat.zero_le _, fun fd nf => ?_⟩
  have nf0 : H fd = none := s4.free nf
  have cf : c ≠ fd := ne_of_none nd4.at_ nf
  have wf : wl ≠ fd := ne_of_none hw4 nf
  have s5 : Same H (upd H4 fd (.lst [])) := s4.trans (same_new nf)
  have nd5 := nd4.to (TLe.new (o := .lst []) nf) (upd_ne cf)
  have hb5 := hb4.to (TLe.new (o := .lst []) nf)
  have hd5 := hd4.to (TLe.new (o := .lst []) nf)
  have hw5 : (upd H4 fd (.lst [])) wl = some (.lst [.ref ba]) := by rw [upd_ne wf]; exact hw4
  have hf5 : (upd H4 fd (.lst [])) fd = some (.lst []) := upd_same
  generalize upd H4 fd (.lst []) = H5 at *
  clear hb4 hd4 hw4 nd4 s4 nw hb3 hd3 s3 t3 nd3 nk2 h2 hd2 s2 hb2 nc s1 hd1 hbs e1 hb1 hba nf
  refine n_while ⟨fun m σ H' => ∃ (l : NL) (wv fv : List V) (W : List (List SG)) (F : Mach) (x5 x6 x7 x8 x9 : Option V), σ = [some v, some (.ref ba), some (.ref c), some (.ref wl), some (.ref fd), x5, x6, x7, x8, x9] ∧ Same H H' ∧ Dt H' v (eGs gs) ∧ ND P w H' c l ∧ H' wl = some (.lst wv) ∧ DtA H' wv (W.map eSs) ∧
      H' fd = some (.lst fv) ∧ DtA H' fv (F.map eRow) ∧ WInv l W ∧ W.Nodup ∧ (∀ s ∈ W, SsOk gs s) ∧ 0 < W.length ∧ F.length ≤ W.length ∧ (∀ r ∈ F, r.1.2 < W.length ∧ r.2.2 < W.length) ∧ m = 256 - F.length,
    ⟨_, _, _, _, [gs.map gFirst], [], none, none, none, none, none, rfl, s5, hd5, nd5, hw5, .cons hb5 .nil, hf5, .nil, ⟨rfl, fun i t ht => ?_⟩, by simp, fun t ht => ?_, Nat.zero_lt_one, Nat.zero_le _, (fun r hr => nomatch hr), rfl⟩, ?_⟩
  · have hi := (List.getElem?_eq_some_iff.mp ht).1
    have e : i = 0 := by simp at hi; exact hi
    subst e
    have e : gs.map gFirst = t := Option.some.inj ht
    subst e
    exact ⟨ba, rfl⟩
  · obtain rfl := List.mem_singleton.mp ht
    exact ok0
  clear hd5 nd5 hw5 hb5 hf5 s5
  rintro m σ H6 ⟨l, wv, fv, W, F, x5, x6, x7, x8, x9, rfl, s6, hd6, nd6, hw6, hwv6, hf6, hfv6, wi, wn, wok, wpos, fle, fok, em⟩
  have few := states_few pl h8 wok wn
  have lw : wv.length = W.length := by rw [hwv6.length, List.length_map]
  have lf : fv.length = F.length := by rw [hfv6.length, List.length_map]
  refine et_test (f := f0) (ev_ib (ev_lenL (evv_var rfl) hf6 (fun z => z)) (ev_lenL (evv_var rfl) hw6 (fun z => z))) H6 (Le.refl _) _ fun H7 e7 => ?_
  have s7 := s6.trans (le_same e7)
  have hd7 := hd6.to e7.tup
  have nd7 := nd6.to e7.tup ((le_same e7 _ _ nd6.at_).trans nd6.at_.symm)
  have hw7 := e7.keep _ _ (fun z => z) hw6
  have hwv7 := hwv6.to e7.tup
  have hf7 := e7.keep _ _ (fun z => z) hf6
  have hfv7 := hfv6.to e7.tup
  clear s6 hd6 nd6 hw6 hwv6 hf6 hfv6 e7
  rw [lf, lw]
  by_cases hlt : F.length < W.length
  · rw [decide_eq_true (show (F.length : Int) < (W.length : Int) by omega)]
    refine iteT ⟨_, fun _ _ h => h, ?_⟩
    obtain ⟨ss, hss⟩ : ∃ ss, W[F.length]? = some ss := ⟨W[F.length], by simp [hlt]⟩
    have okss := wok ss (List.mem_of_getElem? hss)
    -- sides = []
    refine n_set ⟨Nat.zero_le _, fun sd nsd => ?_⟩
    have nsd0 : H sd = none := s7.free nsd
    have csd : c ≠ sd := ne_of_none nd7.at_ nsd
    have wsd : wl ≠ sd := ne_of_none hw7 nsd
    have fsd : fd ≠ sd := ne_of_none hf7 nsd
    have t8 : TLe H7 (upd H7 sd (.lst [])) := TLe.new nsd
    have s8 : Same H (upd H7 sd (.lst [])) := s7.trans (same_new nsd)
    have hd8 := hd7.to t8
    have nd8 := nd7.to t8 (upd_ne csd)
    have hw8 : (upd H7 sd (.lst [])) wl = some (.lst wv) := by rw [upd_ne wsd]; exact hw7
    have hwv8 := hwv7.to t8
    have hf8 : (upd H7 sd (.lst [])) fd = some (.lst fv) := by rw [upd_ne fsd]; exact hf7
    have hfv8 := hfv7.to t8
    have hs8 : (upd H7 sd (.lst [])) sd = some (.lst []) := upd_same
    generalize upd H7 sd (.lst []) = H8 at *
    clear s7 hd7 nd7 hw7 hwv7 hf7 hfv7 t8 nsd
    -- for flag in (False, True)
    refine n_for ⟨by show 2 ≤ sizeLine; decide, fun tf ntf => ⟨tf, rfl, ⟨_, SqT.of upd_same⟩, ?_⟩⟩
    have t9 : TLe H8 (upd H8 tf (.tup [.bl false, .bl true])) := TLe.new ntf
    have s9 : Same H (upd H8 tf (.tup [.bl false, .bl true])) := s8.trans (same_new ntf)
    have hd9 := hd8.to t9
    have nd9 := nd8.to t9 (upd_ne (ne_of_none nd8.at_ ntf))
    have hw9 : (upd H8 tf (.tup [.bl false, .bl true])) wl = some (.lst wv) := by rw [upd_ne (ne_of_none hw8 ntf)]; exact hw8
    have hwv9 := hwv8.to t9
    have hf9 : (upd H8 tf (.tup [.bl false, .bl true])) fd = some (.lst fv) := by rw [upd_ne (ne_of_none hf8 ntf)]; exact hf8
    have hfv9 := hfv8.to t9
    have hs9 : (upd H8 tf (.tup [.bl false, .bl true])) sd = some (.lst []) := by rw [upd_ne (ne_of_none hs8 ntf)]; exact hs8
    have ht9 : (upd H8 tf (.tup [.bl false, .bl true])) tf = some (.tup [.bl false, .bl true]) := upd_same
    generalize upd H8 tf (.tup [.bl false, .bl true]) = H9 at *
    clear s8 hd8 nd8 hw8 hwv8 hf8 hfv8 t9 ntf hs8
    refine for_it (walk_tup (K := K) (a := tf) (xs := [.bl false, .bl true])) (fun i σ' H' => WTurn P w gs fv F W ss v ba c wl fd sd tf x9 H i σ' H')
      ⟨l, wv, [], W, [], x6, x7, x8, rfl, s9, hd9, nd9, hw9, hwv9, hf9, hfv9, hs9, .nil, ht9, wi, wn, wok, Nat.le_refl _, hss, rfl, fun z hz => nomatch hz⟩ (fun i σ' H' _ h => by obtain ⟨_, _, _, _, _, _, _, _, _, _, _, _, _, _, _, _, _, _, h, _⟩ := h; exact SqT.of h) (fun i bx σ' H10 H11 hi h hbx => ?_) fun σ' H10 h => ?_
    · obtain ⟨l', wv', sv, W', sides, y6, y7, y8, rfl, s10, hd10, nd10, hw10, hwv10, hf10, hfv10, hs10, hsv10, ht10, wi', wn', wok', wle, hss', lsd, sok⟩ := h
      obtain ⟨rfl, hbx⟩ := hbx
      obtain ⟨b, rfl⟩ : ∃ b : Bool, bx = .bl b := by
        have hi2 : i = 0 ∨ i = 1 := by simp at hi; omega
        rcases hi2 with rfl | rfl
        · exact ⟨false, (Option.some.inj hbx).symm⟩
        · exact ⟨true, (Option.some.inj hbx).symm⟩
      have few' := states_few pl h8 wok' wn'
      have hwa : (W'.map eSs)[F.length]? = some (eSs ss) := by rw [List.getElem?_map, hss']; rfl
      -- shows, later = row_step(gates, waiting[len(found)], flag)
      refine s_set2 (f := f0) (ev_call (ea_cons (ev_var rfl hd10) (ea_cons (ev_ixL (i := (F.length : Int)) (evv_var rfl) hw10 (fun z => z) hwv10 ((ev_lenL (evv_var rfl) hf10 (fun z => z)).is (by rw [lf])) (atI_nat hwa)) (ea_cons (ev_var rfl (.bl b)) ea_nil))) (fun H1 vs e hv Q r => ⟨gs, ss, b, hv, okss, hz, bits8 ss okss, r⟩) f0_same) fun w1 w2 H12 e12 hw1 hw2 => ?_
      obtain rfl := hw1.bl_eq
      obtain ⟨la, lv, rfl, hla, hlv⟩ := (show Dt H12 w2 (.tuple _) from hw2).tup_inv
      have ok2 := rStep_ok gs ss b okss
      generalize hst : rStep gs ss b = st at *
      obtain ⟨sh, nx⟩ := st
      have hw2 : Dt H12 (.ref la) (eSs nx) := hw2
      have ok2 : SsOk gs nx := ok2
      have s12 := s10.trans (le_same e12)
      have hd12 := hd10.to e12.tup
      have nd12 := nd10.to e12.tup ((le_same e12 _ _ nd10.at_).trans nd10.at_.symm)
      have hw12 := e12.keep _ _ (fun z => z) hw10
      have hwv12 := hwv10.to e12.tup
      have hf12 := e12.keep _ _ (fun z => z) hf10
      have hfv12 := hfv10.to e12.tup
      have hs12 := e12.keep _ _ (fun z => z) hs10
      have hsv12 := hsv10.to e12.tup
      have ht12 := e12.keep _ _ (fun z => z) ht10
      clear s10 hd10 nd10 hw10 hwv10 hf10 hfv10 hs10 hsv10 ht10 e12
      have nk12 : NK H12 (kS nx) la := ⟨_, hw2, rfl, kS_depth _⟩
      have lw' : wv'.length = W'.length := by rw [hwv12.length, List.length_map]
      have lsv : sv.length = sides.length := by rw [hsv12.length, List.length_map]
      have i2 : i < 2 := hi
      -- the end of the turn: sides.append((shows, numbers[later]))
      have fin : ∀ (l2 : NL) (wv2 : List V) (W2 : List (List SG)) (q2 : Nat) (H13 : Hp) (x6 x7 x8 : Option V), Same H H13 → Dt H13 v (eGs gs) → ND P w H13 c l2 → H13 wl = some (.lst wv2) → DtA H13 wv2 (W2.map eSs) → H13 fd = some (.lst fv) → DtA H13 fv (F.map eRow) → H13 sd = some (.lst sv) → DtA H13 sv (sides.map eSide) →
          H13 tf = some (.tup [.bl false, .bl true]) → WInv l2 W2 → W2.Nodup → (∀ s ∈ W2, SsOk gs s) → W'.length ≤ W2.length → W2[F.length]? = some ss → W2[q2]? = some nx → NK H13 (kS nx) la →
          ∀ D : Ends, (∀ σ' H', WTurn P w gs fv F W ss v ba c wl fd sd tf x9 H (i + 1) σ' H' → D.nx σ' H') → tDrop (tBM K "list" rAppend (tVar 5) (tCons (tTup (tCons (tVar 7) (tCons (tGetN P w (tVar 2) (tVar 8)) tNil))) tNil)) D
            [some v, some (.ref ba), some (.ref c), some (.ref wl), some (.ref fd), some (.ref sd), x6, some (.bl sh), some (.ref la), x9] H13 := by
        intro l2 wv2 W2 q2 H13 x6 x7 x8 s13 hd13 nd13 hw13 hwv13 hf13 hfv13 hs13 hsv13 ht13 wi2 wn2 wok2 wle2 hss2 hq2 nk13 D hD
        obtain ⟨a2, hl2⟩ := wi2.at_ q2 nx hq2
        have ev : valN l2 (kS nx) = some (.int (q2 : Int)) := valN_of (wi2.nodup wn2 wok2) hl2
        refine r_drop ⟨.ref sd, rfl, .inl ⟨rfl, _, SqL.of hs13⟩, _, rfl, .ref c, rfl, .ref la, rfl, c, l2, la, _, _, rfl, nd13, rfl, nk13, ev, by show 2 ≤ sizeLine; decide, fun tp ntp => ?_⟩
        have t14 : TLe H13 (upd H13 tp (.tup [.bl sh, .int (q2 : Int)])) := TLe.new ntp
        have hs14 : (upd H13 tp (.tup [.bl sh, .int (q2 : Int)])) sd = some (.lst sv) := by rw [upd_ne (ne_of_none hs13 ntp)]; exact hs13
        refine ⟨sd, sv, _, rfl, rfl, hs14, by rw [lsv, lsd, sizeLine_eq]; omega, ?_⟩
        have t15 := t14.trans (tle_lst (o := .lst (sv ++ [.ref tp])) hs14)
        have q2l := (List.getElem?_eq_some_iff.mp hq2).1
        refine hD _ _ ⟨l2, wv2, sv ++ [.ref tp], W2, sides ++ [(sh, q2)], x6, some (.bl sh), some (.ref la), rfl, same_mut (s13.trans (same_new ntp)) nsd0, hd13.to t15, ?_, ?_, hwv13.to t15, ?_, hfv13.to t15, upd_same, ?_, t15 _ _ ht13, wi2, wn2, wok2, by omega, hss2, by rw [List.length_append, lsd]; rfl, fun z hz => ?_⟩
        · exact (nd13.to t14 (upd_ne (ne_of_none nd13.at_ ntp))).to (tle_lst hs14) (upd_ne csd)
        · rw [upd_ne wsd, upd_ne (ne_of_none hw13 ntp)]; exact hw13
        · rw [upd_ne fsd, upd_ne (ne_of_none hf13 ntp)]; exact hf13
        · rw [List.map_append]
          exact (hsv13.to t15).snoc ((show Dt (upd H13 tp (.tup [.bl sh, .int (q2 : Int)])) (.ref tp) (eSide (sh, q2)) from .tup upd_same (.cons (.bl sh) (.cons (.int _) .nil))).to (tle_lst hs14))
        · rcases List.mem_append.mp hz with hz | hz
          · have := sok z hz; omega
          · obtain rfl := List.mem_singleton.mp hz
            exact q2l
      refine n_when ?_
      refine r_test ⟨.ref la, rfl, .ref c, rfl, c, l', la, _, rfl, nd12, rfl, nk12, _, rfl, ?_⟩
      cases ev : valN l' (kS nx) with
      | some z =>
        refine iteF ?_
        obtain ⟨k, hk, rfl⟩ := wi'.has wok' ok2 ev
        exact fin l' wv' W' k H12 _ none none s12 hd12 nd12 hw12 hwv12 hf12 hfv12 hs12 hsv12 ht12 wi' wn' wok' (Nat.le_refl _) hss' hk nk12 _ fun _ _ h => h
      | none =>
        refine iteT ?_
        have nin := wi'.hasnt ev
        -- numbers[later] = len(waiting)
        refine r_seq ((ev_lenL (f := f0) (evv_var rfl) hw12 (fun z => z)).run fun u H13 e13 hu => ?_)
        obtain rfl := hu.int_eq
        rw [lw']
        have s13 := s12.trans (le_same e13)
        have hd13 := hd12.to e13.tup
        have nd13 := nd12.to e13.tup ((le_same e13 _ _ nd12.at_).trans nd12.at_.symm)
        have hw13 := e13.keep _ _ (fun z => z) hw12
        have hwv13 := hwv12.to e13.tup
        have hf13 := e13.keep _ _ (fun z => z) hf12
        have hfv13 := hfv12.to e13.tup
        have hs13 := e13.keep _ _ (fun z => z) hs12
        have hsv13 := hsv12.to e13.tup
        have ht13 := e13.keep _ _ (fun z => z) ht12
        have nk13 := nk12.to e13.tup
        have hla13 := hw2.to e13.tup
        clear s12 hd12 nd12 hw12 hwv12 hf12 hfv12 hs12 hsv12 ht12 nk12
        refine ⟨.ref c, rfl, .ref la, rfl, c, l', la, kS nx, rfl, nd13, rfl, nk13, ev, by rw [wi'.len, sizeLine_eq]; omega, ?_⟩
        have nd14 := nd13.snoc (v := .int (W'.length : Int)) nk13
        have t14 : TLe H13 (upd H13 c (NDO P w c (l' ++ [(kS nx, la, .int (W'.length : Int))]))) := TLe.set nd13.at_ fun _ z => by cases z
        have hw14 : (upd H13 c (NDO P w c (l' ++ [(kS nx, la, .int (W'.length : Int))]))) wl = some (.lst wv') := by rw [upd_ne (Ne.symm cw)]; exact hw13
        have hf14 : (upd H13 c (NDO P w c (l' ++ [(kS nx, la, .int (W'.length : Int))]))) fd = some (.lst fv) := by rw [upd_ne (Ne.symm cf)]; exact hf13
        have hs14 : (upd H13 c (NDO P w c (l' ++ [(kS nx, la, .int (W'.length : Int))]))) sd = some (.lst sv) := by rw [upd_ne (Ne.symm csd)]; exact hs13
        have s14 : Same H (upd H13 c (NDO P w c (l' ++ [(kS nx, la, .int (W'.length : Int))]))) := same_mut s13 nc0
        have ht14 := t14 _ _ ht13
        have hd14 := hd13.to t14
        have hwv14 := hwv13.to t14
        have hfv14 := hfv13.to t14
        have hsv14 := hsv13.to t14
        have nk14 := nk13.to t14
        have hla14 := hla13.to t14
        generalize upd H13 c (NDO P w c (l' ++ [(kS nx, la, .int (W'.length : Int))])) = H14 at *
        dsimp only
        refine r_drop ⟨.ref wl, rfl, .inl ⟨rfl, _, SqL.of hw14⟩, .ref la, rfl, wl, wv', .ref la, rfl, rfl, hw14, by rw [lw', sizeLine_eq]; omega, ?_⟩
        have t15 := tle_lst (o := .lst (wv' ++ [.ref la])) hw14
        refine fin (l' ++ [(kS nx, la, .int (W'.length : Int))]) (wv' ++ [.ref la]) (W' ++ [nx]) W'.length _ _ none none (same_mut s14 nw0) (hd14.to t15) (nd14.to t15 (upd_ne cw)) upd_same ?_ ?_ (hfv14.to t15) ?_ (hsv14.to t15) (t15 _ _ ht14) wi'.snoc (nodup_snoc wn' nin) ?_ (by rw [List.length_append]; exact Nat.le_add_right _ _) (at_app hss') ?_ (nk14.to t15) _ fun _ _ h => h
        · rw [List.map_append]
          exact (hwv14.to t15).snoc (hla14.to t15)
        · rw [upd_ne (Ne.symm wf)]; exact hf14
        · rw [upd_ne (Ne.symm wsd)]; exact hs14
        · intro t ht
          rcases List.mem_append.mp ht with ht | ht
          · exact wok' t ht
          · obtain rfl := List.mem_singleton.mp ht
            exact ok2
        · rw [List.getElem?_append_right (Nat.le_refl _), Nat.sub_self]; rfl
    · obtain ⟨l', wv', sv, W', sides, y6, y7, y8, rfl, s10, hd10, nd10, hw10, hwv10, hf10, hfv10, hs10, hsv10, ht10, wi', wn', wok', wle, hss', lsd, sok⟩ := h
      have few' := states_few pl h8 wok' wn'
      obtain ⟨a, b, rfl⟩ : ∃ a b, sides = [a, b] := by
        have l2 : sides.length = 2 := lsd
        match sides, l2 with
        | [a, b], _ => exact ⟨a, b, rfl⟩
      refine s_app (f := f0) (evv_var rfl) hf10 (fun z => z) (ev_tupL (evv_var rfl) hs10 (fun z => z) hsv10) (by omega) fun u H11 e11 hu hf11 => ?_
      have t12 := e11.tup.trans (tle_lst (o := .lst (fv ++ [u])) hf11)
      have hu' : Dt H11 u (eRow (a, b)) := hu
      refine ⟨256 - (F.length + 1), by omega, l', wv', fv ++ [u], W', F ++ [(a, b)], _, _, _, _, _, rfl, same_mut (s10.trans (le_same e11)) nf0, hd10.to t12, nd10.to t12 ?_, ?_, hwv10.to t12, upd_same, ?_, wi', wn', wok', by omega, ?_, fun r hr => ?_, by rw [List.length_append]; rfl⟩
      · rw [upd_ne cf]; exact (le_same e11 _ _ nd10.at_).trans nd10.at_.symm
      · rw [upd_ne wf]; exact e11.keep _ _ (fun z => z) hw10
      · rw [List.map_append]
        exact (hfv10.to t12).snoc (hu'.to (tle_lst hf11))
      · rw [List.length_append]
        have := (List.getElem?_eq_some_iff.mp hss').1
        exact this
      · rcases List.mem_append.mp hr with hr | hr
        · have := fok r hr; omega
        · obtain rfl := List.mem_singleton.mp hr
          exact ⟨sok a (by simp), sok b (by simp)⟩
  · rw [decide_eq_false (show ¬ (F.length : Int) < (W.length : Int) by omega)]
    refine iteF ?_
    have el : F.length = W.length := by omega
    refine s_ret (f := f0) (ev_tupL (evv_var rfl) hf7 (fun z => z) hfv7) fun r H8 e8 hr => q r H8 F (s7.trans (le_same e8)) ⟨by omega, fun i b hi => ?_⟩ (by omega) hr
    have hrow := row_eq hi
    have hr := fok _ (List.mem_of_getElem? hrow)
    cases b
    · rw [el]; exact hr.1
    · rw [el]; exact hr.2
theorem ok_machine_of (A : At K mg "machine_of" s_machine_of ["told"]) (f_normal_of : Fn P w K mg base 2 "normal_of" ["told"] sp_normal_of) (f_wide_machine : Fn P w K mg base 3 "wide_machine" ["gates"] sp_wide) (f_least_of : Fn P w K mg base 3 "least_of" ["told"] sp_least_of) : Fn P w K mg base 4 "machine_of" ["told"] sp_machine_of := by
  refine A.fn c_machine_of (fun vs H Q E h => by obtain ⟨_, _, _, h, _⟩ := h; exact h.length) fun f cdv A outer s H vs Q E hr h => ?_
  obtain ⟨on, off, rs, h, hz, lo, h8, q⟩ := h
  obtain ⟨v, rfl, hd⟩ := dta1 h
  refine ⟨_, (pss_one (ps_ret (pe_fn f_least_of (hr.mono (by decide)) rfl (pa_cons (pe_fn f_wide_machine (hr.mono (by decide)) rfl (pa_cons (pe_fn f_normal_of (hr.mono (by decide)) rfl (pa_cons (pv 0) pa_nil)) pa_nil)) pa_nil)))), ?_⟩
  refine r_ret (r_call1 (r_call1 (r_call1 ⟨v, rfl, on, off, rs, .cons hd .nil, hz, lo, fun g H1 gs s1 nm hg => ?_⟩)))
  refine ⟨gs, .cons hg .nil, nm.1, by have := nm.2.2; omega, by rw [nm.2.1]; exact h8, fun u H2 M s2 ok hl hu => ?_⟩
  exact ⟨M, .cons hu .nil, ok, by omega, fun L z H3 s3 il ll hz => q z H3 L ((s1.trans s2).trans s3) il.self (by omega) hz⟩
theorem ok_machine (A : At K mg "machine" s_machine ["row"]) (f_check_few : Fn P w K mg base 7 "check_few" ["row"] sp_check_few) (f_shape_of : Fn P w K mg base 5 "shape_of" ["row"] sp_shape_of) (f_machine_of : Fn P w K mg base 4 "machine_of" ["told"] sp_machine_of) : Fn P w K mg base 8 "machine" ["row"] sp_machine := by
  refine A.fn c_machine (fun vs H Q E h => by obtain ⟨_, h, _⟩ := h; exact h.length) fun f cdv A outer s H vs Q E hr h => ?_
  obtain ⟨gs, h, hz, h8, q⟩ := h
  obtain ⟨v, rfl, hd⟩ := dta1 h
  refine ⟨_, (pss_cons (ps_expr (pe_fn f_check_few (hr.mono (by decide)) rfl (pa_cons (pv 0) pa_nil)))
      (pss_one (ps_ret (pe_fn f_machine_of (hr.mono (by decide)) rfl (pa_cons (pe_fn f_shape_of (hr.mono (by decide)) rfl (pa_cons (pv 0) pa_nil)) pa_nil))))), ?_⟩
  refine s_drop (f := f0) (ev_call (d := .none) (ea_cons (ev_var rfl hd) ea_nil) (fun H1 vs e hv Q r => ⟨gs, hv, hz, h8, r⟩) f0_same) fun H1 e1 => ?_
  dsimp only
  refine r_ret (r_call1 (r_call1 ⟨v, rfl, gs, .cons (hd.to e1.tup) .nil, hz, fun u H2 rs s2 lo hl hu => ?_⟩))
  exact ⟨_, _, rs, .cons hu .nil, by omega, lo, h8, fun z H3 L s3 il ll hz => q z H3 L (((le_same e1).trans s2).trans s3) il ll hz⟩
end
end K13
/-! K13M: the law's tape and picks. -/
namespace K13
open PySem PySem.Spec PyProof.Rows L2 KM
def tapeL (cs : Addr) (i d m n : Int) : List V := [.ref cs, .int i, .int d, .int m, .int n]
structure TapeAt (H : Hp) (T cs : Addr) : Prop where
  tp : ∃ i d m n : Int, H T = some (.lst (tapeL cs i d m n)) ∧ 0 ≤ i
  cl : ∃ ns : List Int, H cs = some (.lst (ns.map V.int))
  ne : T ≠ cs
/-- the tape at T may change -/
def fT (T cs : Addr) : Fx where
  B := fun a => a = T
  J := fun H => TapeAt H T cs
  st := fun {H H1 p o} j hp j1 => by
    have h1 : T ≠ p := by
      obtain ⟨_, _, _, _, h, _⟩ := j.tp
      exact ne_of_none h hp
    have h2 : cs ≠ p := by
      obtain ⟨_, h⟩ := j.cl
      exact ne_of_none h hp
    exact ⟨by rw [upd_ne h1]; exact j1.tp, by rw [upd_ne h2]; exact j1.cl, j1.ne⟩
theorem le_T {H H' : Hp} {T cs : Addr} (e : Le f0 H H') : Le (fT T cs) H H' := ⟨fun a o _ h => e.keep a o (fun z => z) h, e.tup, fun j => by
  obtain ⟨i, d, m, n, h1, h2⟩ := j.tp
  obtain ⟨ns, h3⟩ := j.cl
  exact ⟨⟨i, d, m, n, e.keep _ _ (fun z => z) h1, h2⟩, ⟨ns, e.keep _ _ (fun z => z) h3⟩, j.ne⟩⟩
theorem same_T {H H' : Hp} {T cs : Addr} (e : Same H H') : Le (fT T cs) H H' := le_T (same_le e)
theorem set_T {H : Hp} {T cs : Addr} {vs : List V} {i d m n : Int} (h : H T = some (.lst vs)) (hi : 0 ≤ i) : Le (fT T cs) H (upd H T (.lst (tapeL cs i d m n))) :=
  ⟨fun a o na e => by rw [upd_ne na]; exact e, tle_lst h, fun j => ⟨⟨i, d, m, n, upd_same, hi⟩, by rw [upd_ne (Ne.symm j.ne)]; exact j.cl, j.ne⟩⟩
/-- an object of no older heap may change too -/
theorem le_mut {f : Fx} {H H' : Hp} {p : Addr} {o u : HO} (e : Le f H H') (hp : H p = none) (hu : H' p = some u) (ht : ∀ xs, u ≠ .tup xs) : Le f H (upd H' p o) :=
  ⟨fun a x nb h => by rw [upd_ne (ne_of_none h hp)]; exact e.keep a x nb h, e.tup.trans (TLe.set hu ht), fun j => f.st j hp (e.inv j)⟩
theorem le_lst {f : Fx} {H H' : Hp} {p : Addr} {o : HO} {vs : List V} (e : Le f H H') (hp : H p = none) (hu : H' p = some (.lst vs)) : Le f H (upd H' p o) := le_mut e hp hu fun xs z => by cases z
section
variable {f : Fx} {σ : L2.St} {H : Hp} {K : PySem.W.Frag} {ta tb te : TE} {D : Ends} {l : Addr} {vs : List V}
theorem ev_ixV {i : Int} {v : V} (ha : EvV f ta σ H (.ref l)) (hl : H l = some (.lst vs)) (hB : ¬ f.B l) (hb : EvD f tb σ H (.int i)) (hi : atI vs i = some v) : EvV f (tOp (rIxL K) ta tb) σ H v := fun H1 e1 Q q => ha H1 e1 _ fun H2 e2 => hb H2 (e1.trans e2) _ fun w H3 e3 hw => by
  obtain rfl := hw.int_eq
  exact ⟨l, vs, i, v, rfl, rfl, SqL.of (((e1.trans e2).trans e3).keep _ _ hB hl), hi, q H3 (e2.trans e3)⟩
theorem ev_ofV {d : PyData} {v : V} (h : EvV f te σ H v) (hd : ∀ H1, Dt H1 v d) : EvD f te σ H d := fun H1 e1 Q q => h H1 e1 _ fun H2 e2 => q v H2 e2 (hd H2)
theorem ev_ixI {i x : Int} (ha : EvV f ta σ H (.ref l)) (hl : H l = some (.lst vs)) (hB : ¬ f.B l) (hb : EvD f tb σ H (.int i)) (hi : atI vs i = some (.int x)) : EvD f (tOp (rIxL K) ta tb) σ H (.int x) := ev_ofV (ev_ixV ha hl hB hb hi) fun _ => .int x
theorem s_setT {n : Nat} {i x : Int} {j : Nat} (hs : σ[n]? = some (some (.ref l))) (hl : H l = some (.lst vs)) (h : EvD f0 te σ H (.int x)) (hi : ixN vs.length i = some j) (k : ∀ H1, Le f0 H H1 → D.nx σ (upd H1 l (.lst (vs.set j (.int x))))) : tAsg te (gSub (tVar n) (tC (.int i)) rSetL) D σ H :=
  r_asg (h.run fun v H1 e hv => by
    obtain rfl := hv.int_eq
    exact ⟨_, hs, l, vs, i, j, rfl, rfl, e.keep _ _ (fun z => z) hl, hi, k H1 e⟩)
theorem s_setT2 {n : Nat} {i x : Int} {j : Nat} {tz : TS} (hs : σ[n]? = some (some (.ref l))) (hl : H l = some (.lst vs)) (h : EvD f0 te σ H (.int x)) (hi : ixN vs.length i = some j) (k : ∀ H1, Le f0 H H1 → tz D σ (upd H1 l (.lst (vs.set j (.int x))))) : tSeq (tAsg te (gSub (tVar n) (tC (.int i)) rSetL)) tz D σ H := s_setT (D := { D with nx := tz D }) hs hl h hi k
end
/-- an if whose end is told -/
theorem s_whenJ {f : Fx} {σ : L2.St} {H : Hp} {D : Ends} {b : Bool} {tt : TT} {tu tz : TS} (J : L2.St → Hp → Prop) (hz : ∀ σ H, J σ H → tz D σ H) (h : EvT f tt σ H b) (h1 : b = true → ∀ H1, Le f H H1 → ∀ D' : Ends, (∀ σ H, J σ H → D'.nx σ H) → tu D' σ H1) (h2 : b = false → ∀ H1, Le f H H1 → J σ H1) : tSeq (tIfS tt tu tNext) tz D σ H :=
  s_when h (fun hb H1 e => h1 hb H1 e _ hz) fun hb H1 e => hz _ _ (h2 hb H1 e)
def sp_tape : Sp := fun vs H Q _ => ∃ (K : PySem.W.Frag) (a : Addr) (ns : List Int), vs = [.ref a] ∧ SqL K H a (ns.map V.int) ∧ ∀ T cs H', TapeAt H' T cs → Q (.ref T) H'
def sp_pick : Sp := fun vs H Q _ => ∃ (T cs : Addr) (k : Int), vs = [.ref T, .int k] ∧ TapeAt H T cs ∧ 0 < k ∧ k < 1000000 ∧ ∀ (n : Nat) H', (n : Int) < k → Le (fT T cs) H H' → Q (.int (n : Int)) H'
section
variable {P : Program} {w : World} {K : PySem.W.Frag} {mg : Str → Option Value} {base : Heap}
def sp_tapeK (K : PySem.W.Frag) : Sp := fun vs H Q _ => ∃ (a : Addr) (ns : List Int), vs = [.ref a] ∧ SqL K H a (ns.map V.int) ∧ ∀ T cs H', TapeAt H' T cs → Q (.ref T) H'
theorem ok_Ltape (T : Top mg) (A : At K mg "_law_tape" s_Ltape ["_law_script"]) : Fn P w K mg base 1 "_law_tape" ["_law_script"] (sp_tapeK K) := by
  refine A.fn c_Ltape (fun vs H Q E h => by obtain ⟨_, _, rfl, _⟩ := h; rfl) fun f cdv A outer s H vs Q E hr h => ?_
  obtain ⟨a, ns, rfl, ha, q⟩ := h
  refine ⟨_, (pss_one (ps_ret (pe_lst (pa_cons (pe_callTy (cl_list K rfl) (by rfl) T.list_ (by decide +kernel) (pa_cons (pv 0) pa_nil)) (pa_cons pe_int (pa_cons pe_int (pa_cons pe_int (pa_cons pe_int pa_nil)))))))), ?_⟩
  refine r_ret ⟨.ref a, rfl, a, _, rfl, .inl ha, fun cs hcs => ⟨by show 5 ≤ sizeLine; decide, fun T hT => q T cs _ ⟨⟨0, 0, 1, 0, upd_same, Int.le_refl _⟩, ⟨ns, ?_⟩, ?_⟩⟩⟩
  · have h1 : T ≠ cs := fun e => by rw [e, upd_same] at hT; cases hT
    rw [upd_ne (Ne.symm h1), upd_same]
  · intro e; rw [e, upd_same] at hT; cases hT
theorem ok_Lpick (T : Top mg) (A : At K mg "_law_pick" s_Lpick ["_law_tape_here", "_law_many"]) : Fn P w K mg base 1 "_law_pick" ["_law_tape_here", "_law_many"] sp_pick := by
  refine A.fn c_Lpick (fun vs H Q E h => by obtain ⟨_, _, _, rfl, _⟩ := h; rfl) fun f cdv A outer s H vs Q E hr h => ?_
  obtain ⟨t, cs, k, rfl, ta, h0, hk, q⟩ := h
  refine ⟨_, (pss_cons (ps_if (pt_cmpR op_gt (pe_ix (ixL K rfl) (pv 0) pe_int (fun _ _ => rfl)) pe_int (nomark _)) (pss_cons (ps_set (i := 2) c_Lpick.nd rfl (.inl rfl) (pe_op op_mod (pe_callTy (cl_int) (by rfl) T.int_ (by decide +kernel) (pa_cons (pe_ix (ixL K rfl) (pv 0) pe_int (fun _ _ => rfl)) pa_nil)) (pv 1)))
      (pss_cons (ps_asg (pe_op op_fdivW (pe_ix (ixL K rfl) (pv 0) pe_int (fun _ _ => rfl)) (pv 1)) (pg_sub (pv 0) pe_int set_list))
      (pss_one (ps_ret (pv 2))))) pss_nil)
      (pss_cons (ps_asg (pe_op op_add (pe_ix (ixL K rfl) (pv 0) pe_int (fun _ _ => rfl)) pe_int) (pg_sub (pv 0) pe_int set_list))
      (pss_cons (ps_set (i := 3) c_Lpick.nd rfl (.inl rfl) pe_int)
      (pss_cons (ps_if (pt_cmpR op_lt (pe_ix (ixL K rfl) (pv 0) pe_int (fun _ _ => rfl)) (pe_callB (cl_len K rfl) (by rfl) T.len_ (by decide +kernel) (pa_cons (pe_ix (ixL K rfl) (pv 0) pe_int (fun _ _ => rfl)) pa_nil)) (nomark _)) (pss_cons (ps_set (i := 3) c_Lpick.nd rfl (.inl rfl) (pe_ix (ixL K rfl) (pe_ix (ixL K rfl) (pv 0) pe_int (fun _ _ => rfl)) (pe_ix (ixL K rfl) (pv 0) pe_int (fun _ _ => rfl)) (fun _ _ => rfl)))
      (pss_one (ps_asg (pe_op op_add (pe_ix (ixL K rfl) (pv 0) pe_int (fun _ _ => rfl)) pe_int) (pg_sub (pv 0) pe_int set_list)))) pss_nil)
      (pss_cons (ps_if (pt_cmpR op_ge (pv 3) (pe_op op_pow pe_int pe_int) (nomark _)) (pss_cons (ps_asg (pe_op op_fdivW (pv 3) (pv 1)) (pg_sub (pv 0) pe_int set_list))
      (pss_one (ps_ret (pe_op op_mod (pe_callTy (cl_int) (by rfl) T.int_ (by decide +kernel) (pa_cons (pv 3) pa_nil)) (pv 1))))) pss_nil)
      (pss_cons (ps_set (i := 4) c_Lpick.nd rfl (.inl rfl) (pe_op op_mod (pe_callTy (cl_int) (by rfl) T.int_ (by decide +kernel) (pa_cons (pe_op op_add (pe_op op_add (pe_op op_mul (pe_ix (ixL K rfl) (pv 0) pe_int (fun _ _ => rfl)) pe_int) (pe_op op_mod (pe_callTy (cl_int) (by rfl) T.int_ (by decide +kernel) (pa_cons (pv 3) pa_nil)) pe_int)) (pe_op op_mul (pe_ix (ixL K rfl) (pv 0) pe_int (fun _ _ => rfl)) pe_int)) pa_nil)) pe_int))
      (pss_cons (ps_set (i := 4) c_Lpick.nd rfl (.inl rfl) (pe_op op_mod (pe_callTy (cl_int) (by rfl) T.int_ (by decide +kernel) (pa_cons (pe_op op_mul (pv 4) (pe_op op_add (pe_op op_fdivW (pv 4) pe_int) pe_int)) pa_nil)) pe_int))
      (pss_cons (ps_asg (pv 4) (pg_sub (pv 0) pe_int set_list))
      (pss_one (ps_ret (pe_op op_mod (pe_callTy (cl_int) (by rfl) T.int_ (by decide +kernel) (pa_cons (pe_op op_fdivW (pv 4) pe_int) pa_nil)) (pv 1)))))))))))), ?_⟩
  obtain ⟨i, d, m, n, ht, hi⟩ := ta.tp
  obtain ⟨ns, hc⟩ := ta.cl
  have ne := ta.ne
  have h0' : (fun (_ j : Int) => 0 < j) 0 k := h0
  have fin : ∀ (x : Int) (H' : Hp), Le (fT t cs) H H' → Q (.int (x % k)) H' := fun x H' e => by
    have e1 : ((x % k).toNat : Int) = x % k := Int.toNat_of_nonneg (Int.emod_nonneg _ (by omega))
    have e2 := Int.emod_lt_of_pos x h0
    rw [← e1] at e2 ⊢
    exact q _ H' e2 e
  refine s_when (f := f0) (b := decide (d > 1)) (et_test (ev_ib (ev_ixI (evv_var rfl) ht (fun z => z) ev_int rfl) ev_int)) (fun hb H1 e1 => ?_) fun hb H1 e1 => ?_
  · have ht1 := e1.keep _ _ (fun z => z) ht
    refine s_set (f := f0) (ev_ic (ev_intI (ev_ixI (evv_var rfl) ht1 (fun z => z) ev_int rfl)) (ev_var rfl (.int k)) h0) fun v H2 e2 hv => ?_
    obtain rfl := hv.int_eq
    have ht2 := e2.keep _ _ (fun z => z) ht1
    refine s_setT2 (vs := tapeL cs i d m n) (j := 2) rfl ht2 (ev_ic (ev_ixI (evv_var rfl) ht2 (fun z => z) ev_int rfl) (ev_var rfl (.int k)) ⟨h0, ?_⟩) rfl fun H3 e3 => ?_
    · have : k.natAbs < 2 ^ 20 := by omega
      have := (Nat.log2_lt (by omega)).mpr this
      omega
    refine r_ret ⟨_, rfl, fin d _ ((le_T ((e1.trans e2).trans e3)).trans (set_T (i := i) (d := d / k) (m := m) (n := n) (e3.keep _ _ (fun z => z) ht2) hi))⟩
  · have ht1 := e1.keep _ _ (fun z => z) ht
    have hc1 := e1.keep _ _ (fun z => z) hc
    -- count
    refine s_setT2 (vs := tapeL cs i d m n) (j := 4) rfl ht1 (ev_ii (ev_ixI (evv_var rfl) ht1 (fun z => z) ev_int rfl) ev_int) rfl fun H2 e2 => ?_
    have l3 : Le (fT t cs) H (upd H2 t (.lst (tapeL cs i d m (n + 1)))) := (le_T (e1.trans e2)).trans (set_T (e2.keep _ _ (fun z => z) ht1) hi)
    have ht3 : (upd H2 t (.lst (tapeL cs i d m (n + 1)))) t = some (.lst (tapeL cs i d m (n + 1))) := upd_same
    have hc3 : (upd H2 t (.lst (tapeL cs i d m (n + 1)))) cs = some (.lst (ns.map V.int)) := by rw [upd_ne (Ne.symm ne)]; exact e2.keep _ _ (fun z => z) hc1
    show tSeq _ _ _ _ (upd H2 t (.lst (tapeL cs i d m (n + 1))))
    generalize upd H2 t (.lst (tapeL cs i d m (n + 1))) = H3 at *
    refine n_set ?_
    -- the cell
    refine s_whenJ (f := f0) (b := decide (i < (ns.length : Int))) (fun σ H' => ∃ cell i' : Int, σ = [some (.ref t), some (.int k), none, some (.int cell), none] ∧ 0 ≤ i' ∧ Le (fT t cs) H H' ∧ H' t = some (.lst (tapeL cs i' d m (n + 1)))) ?_
      (et_test (ev_ib (ev_ixI (evv_var rfl) ht3 (fun z => z) ev_int rfl) ((ev_lenL (ev_ixV (evv_var rfl) ht3 (fun z => z) ev_int rfl) hc3 (fun z => z)).is (by rw [List.length_map])))) (fun hb H4 e4 D' hD => ?_) (fun hb H4 e4 => ⟨0, i, rfl, hi, l3.trans (le_T e4), e4.keep _ _ (fun z => z) ht3⟩)
    · rintro σ H4 ⟨cell, i', rfl, hi', l4, ht4⟩
      refine s_when (f := f0) (b := decide (cell ≥ 10 ^ 18)) (et_test (ev_ib (ev_var rfl (.int cell)) (ev_ic (i := 10) (j := 18) ev_int ev_int ⟨by decide, by decide, by decide⟩))) (fun hb H5 e5 => ?_) fun hb H5 e5 => ?_
      · have ht5 := e5.keep _ _ (fun z => z) ht4
        refine s_setT2 (vs := tapeL cs i' d m (n + 1)) (j := 2) rfl ht5 (ev_ic (ev_var rfl (.int cell)) (ev_var rfl (.int k)) ⟨h0, ?_⟩) rfl fun H6 e6 => ?_
        · have : k.natAbs < 2 ^ 20 := by omega
          have := (Nat.log2_lt (by omega)).mpr this
          omega
        have l6 : Le (fT t cs) H (upd H6 t (.lst (tapeL cs i' (cell / k) m (n + 1)))) := (l4.trans (le_T (e5.trans e6))).trans (set_T (e6.keep _ _ (fun z => z) ht5) hi')
        exact s_ret (f := f0) (ev_ic (ev_intI (ev_var rfl (.int cell))) (ev_var rfl (.int k)) h0) fun r H7 e7 hr => by
          obtain rfl := hr.int_eq
          exact fin cell _ (l6.trans (le_T e7))
      · have ht5 := e5.keep _ _ (fun z => z) ht4
        refine s_set (f := f0) (ev_ic (ev_intI (ev_ii (ev_ii (ev_ic (ev_ixI (evv_var rfl) ht5 (fun z => z) ev_int rfl) ev_int (.inr ⟨by decide, by decide⟩)) (ev_ic (ev_intI (ev_var rfl (.int cell))) ev_int (by decide))) (ev_ic (ev_ixI (evv_var rfl) ht5 (fun z => z) ev_int rfl) ev_int (.inr ⟨by decide, by decide⟩)))) ev_int (by decide)) fun v H6 e6 hv => ?_
        obtain rfl := hv.int_eq
        generalize hmx : ((m * 48271 + cell % 2147483629 + (n + 1) * 69621) % 2147483647 : Int) = mx
        have b1 : 0 ≤ mx := by rw [← hmx]; exact Int.emod_nonneg _ (by decide)
        have b2 : mx < 2147483647 := by rw [← hmx]; exact Int.emod_lt_of_pos _ (by decide)
        have ht6 := e6.keep _ _ (fun z => z) ht5
        refine s_set (f := f0) (ev_ic (ev_intI (ev_ic (ev_var rfl (.int mx)) (ev_ii (ev_ic (ev_var rfl (.int mx)) ev_int ⟨by decide, by decide +kernel⟩) ev_int) (.inl ⟨by omega, by omega⟩))) ev_int (by decide)) fun v H7 e7 hv => ?_
        obtain rfl := hv.int_eq
        generalize hmy : ((mx * (mx / 1009 + 40692)) % 2147483399 : Int) = my
        have ht7 := e7.keep _ _ (fun z => z) ht6
        refine s_setT2 (vs := tapeL cs i' d m (n + 1)) (j := 3) rfl ht7 (ev_var rfl (.int my)) rfl fun H8 e8 => ?_
        have l8 : Le (fT t cs) H (upd H8 t (.lst (tapeL cs i' d my (n + 1)))) := (l4.trans (le_T (((e5.trans e6).trans e7).trans e8))).trans (set_T (e8.keep _ _ (fun z => z) ht7) hi')
        exact s_ret (f := f0) (ev_ic (ev_intI (ev_ic (ev_var rfl (.int my)) ev_int ⟨by decide, by decide +kernel⟩)) (ev_var rfl (.int k)) h0) fun r H9 e9 hr => by
          obtain rfl := hr.int_eq
          exact fin _ _ (l8.trans (le_T e9))
    · have hlt : i < (ns.length : Int) := of_decide_eq_true hb
      have ht4 := e4.keep _ _ (fun z => z) ht3
      have hc4 := e4.keep _ _ (fun z => z) hc3
      obtain ⟨x, hx⟩ : ∃ x, ns[i.toNat]? = some x := ⟨ns[i.toNat]'(by omega), by simp⟩
      have hat : atI (ns.map V.int) i = some (.int x) := by
        have e : i = ((i.toNat : Nat) : Int) := by omega
        rw [e]
        exact atI_nat (by rw [List.getElem?_map, hx]; rfl)
      refine s_set (f := f0) (ev_ixI (ev_ixV (evv_var rfl) ht4 (fun z => z) ev_int rfl) hc4 (fun z => z) (ev_ixI (evv_var rfl) ht4 (fun z => z) ev_int rfl) hat) fun v H5 e5 hv => ?_
      obtain rfl := hv.int_eq
      have ht5 := e5.keep _ _ (fun z => z) ht4
      refine s_setT (vs := tapeL cs i d m (n + 1)) (j := 1) rfl ht5 (ev_ii (ev_ixI (evv_var rfl) ht5 (fun z => z) ev_int rfl) ev_int) rfl fun H6 e6 => ?_
      have hi1 : 0 ≤ i + 1 := by omega
      exact hD _ _ ⟨x, i + 1, rfl, hi1, ((l3.trans (le_T (e4.trans (e5.trans e6))))).trans (set_T (i := i + 1) (e6.keep _ _ (fun z => z) ht5) hi1), upd_same⟩
end
end K13
/-! K13N: live rows, machines drawn. -/
namespace K13
open PySem PySem.Spec PyProof.Rows L2 KM
section
variable {f : Fx} {σ : L2.St} {H : Hp} {K : PySem.W.Frag} {ta tb te : TE} {D : Ends} {t cs : Addr} {k : Int} {Q : VK} {E : XK}
theorem r_pick {m : Nat} (hs : σ[m]? = some (some (.ref t))) (ta : TapeAt H t cs) (hk : EvD f0 te σ H (.int k)) (h0 : 0 < k) (h1 : k < 1000000) (c : ∀ (x : Nat) H', (x : Int) < k → Le (fT t cs) H H' → Q (.int (x : Int)) H') : tCall sp_pick [] E (tCons (tVar m) (tCons te tNil)) σ H Q :=
  ⟨.ref t, hs, hk.run fun v H1 e hv => by
    obtain rfl := hv.int_eq
    exact ⟨t, cs, k, rfl, (le_T e).inv ta, h0, h1, fun x H' hx e2 => c x H' hx ((le_T e).trans e2)⟩⟩
theorem s_pick {m n : Nat} {tz : TS} (hs : σ[m]? = some (some (.ref t))) (ta : TapeAt H t cs) (hk : EvD f0 te σ H (.int k)) (h0 : 0 < k) (h1 : k < 1000000) (c : ∀ (x : Nat) H', (x : Int) < k → Le (fT t cs) H H' → tz D (σ.set n (some (.int (x : Int)))) H') : tSeq (tAsg (tCall sp_pick [] E (tCons (tVar m) (tCons te tNil))) (gName n)) tz D σ H :=
  n_set (r_pick hs ta hk h0 h1 c)
end
def sp_live : Sp := fun vs H Q _ => ∃ (t cs : Addr), vs = [.ref t, .int 8] ∧ TapeAt H t cs ∧ ∀ v H' gs, Le (fT t cs) H H' → gs.length ≤ 6 → onSum gs + offSum gs ≤ 8 → Dt H' v (eGs gs) → Q v H'
theorem late_snoc (gs : List LG) (g : LG) : onSum (gs ++ [g]) + offSum (gs ++ [g]) = onSum gs + offSum gs + (g.late.1 + g.late.2) := by
  rw [onSum_app, offSum_app]
  show onSum gs + (g.late.1 + 0) + (offSum gs + (g.late.2 + 0)) = _
  omega
section
variable {P : Program} {w : World} {K : PySem.W.Frag} {mg : Str → Option Value} {base : Heap}
/-- where a turn of live_row stands: j the gates that may be there -/
def LvJ (t cs p : Addr) (H : Hp) (j : Nat) (kind n : Int) (σ : L2.St) (H' : Hp) : Prop :=
  ∃ (gs : List LG) (us : List V) (left : Int) (x4 x7 : Option V), σ = [some (.ref t), some (.int 8), some (.ref p), some (.int left), x4, some (.int kind), some (.int n), x7] ∧ Le (fT t cs) H H' ∧ H' p = some (.lst us) ∧ DtA H' us (gs.map eG) ∧ ((onSum gs + offSum gs : Nat) : Int) + left = 8 ∧ 0 ≤ left ∧ gs.length ≤ j
theorem LvJ.app {t cs p : Addr} {H H1 : Hp} {gs : List LG} {us : List V} {v : V} (g : LG) (e : Le (fT t cs) H H1) (hp0 : H p = none) (hp : H1 p = some (.lst us)) (hu : DtA H1 us (gs.map eG)) (hv : Dt H1 v (eG g)) :
    Le (fT t cs) H (upd H1 p (.lst (us ++ [v]))) ∧ DtA (upd H1 p (.lst (us ++ [v]))) (us ++ [v]) ((gs ++ [g]).map eG) := by
  refine ⟨le_lst e hp0 hp, ?_⟩
  rw [List.map_append]
  exact (hu.snoc hv).to (tle_lst hp)
theorem ok_Llive_row (T : Top mg) (A : At K mg "_law_live_row" s_Llive_row ["_law_tape_here", "_law_most"]) (f_Lpick : Fn P w K mg base 1 "_law_pick" ["_law_tape_here", "_law_many"] sp_pick) : Fn P w K mg base 2 "_law_live_row" ["_law_tape_here", "_law_most"] sp_live := by
  refine A.fn c_Llive_row (fun vs H Q E h => by obtain ⟨_, _, rfl, _⟩ := h; rfl) fun f cdv A outer s H vs Q E hr h => ?_
  obtain ⟨t, cs, rfl, ta, q⟩ := h
  refine ⟨_, (pss_cons (ps_set (i := 2) c_Llive_row.nd rfl (.inl rfl) (pe_lst pa_nil))
      (pss_cons (ps_set (i := 3) c_Llive_row.nd rfl (.inl rfl) (pv 1))
      (pss_cons (ps_for PassesOwn.never rfl (pi_range1 rfl T.range_ (pa_cons (pe_fn f_Lpick (hr.mono (by decide)) rfl (pa_cons (pv 0) (pa_cons pe_int pa_nil))) pa_nil)) (pg_name (i := 4) c_Llive_row.nd rfl (.inl rfl)) (pss_cons (ps_set (i := 5) c_Llive_row.nd rfl (.inl rfl) (pe_fn f_Lpick (hr.mono (by decide)) rfl (pa_cons (pv 0) (pa_cons pe_int pa_nil))))
      (pss_cons (ps_set (i := 6) c_Llive_row.nd rfl (.inl rfl) (pe_op op_add pe_int (pe_fn f_Lpick (hr.mono (by decide)) rfl (pa_cons (pv 0) (pa_cons pe_int pa_nil)))))
      (pss_cons (ps_if (PW.pt (pw_and (pt_cmpR op_lt (pv 5) pe_int (nomark _)) (pw_and1 (pt_cmpR op_le (pv 6) (pv 3) (nomark _))))) (pss_cons (ps_expr (pe_bmK K rfl PySem.F.plainAttrs_list PySem.F.slot_list_append PySem.F.type_list_append (mt_append) (pv 2) (pa_cons (pe_tup (pa_cons (pe_ix (ixL K rfl) (pe_lst (pa_cons pe_str (pa_cons pe_str pa_nil))) (pe_op op_fdivW (pv 5) pe_int) (fun _ _ => rfl)) (pa_cons (pv 6) pa_nil))) pa_nil)))
      (pss_one (ps_set (i := 3) c_Llive_row.nd rfl (.inl rfl) (pe_op op_sub (pv 3) (pv 6))))) pss_nil)
      (pss_cons (ps_if (PW.pt (pw_and (pt_cmpR op_eq (pv 5) pe_int (nomark _)) (pw_and1 (pt_cmpR op_le (pe_op op_mul pe_int (pv 6)) (pv 3) (nomark _))))) (pss_cons (ps_expr (pe_bmK K rfl PySem.F.plainAttrs_list PySem.F.slot_list_append PySem.F.type_list_append (mt_append) (pv 2) (pa_cons (pe_tup (pa_cons pe_str (pa_cons (pv 6) pa_nil))) pa_nil)))
      (pss_one (ps_set (i := 3) c_Llive_row.nd rfl (.inl rfl) (pe_op op_sub (pv 3) (pe_op op_mul pe_int (pv 6)))))) pss_nil)
      (pss_one (ps_if (PW.pt (pw_and (pt_cmpR op_eq (pv 5) pe_int (nomark _)) (pw_and1 (pt_cmpR op_le (pv 6) (pv 3) (nomark _))))) (pss_cons (ps_set (i := 7) c_Llive_row.nd rfl (.inl rfl) (pe_fn f_Lpick (hr.mono (by decide)) rfl (pa_cons (pv 0) (pa_cons (pe_op op_add (pv 6) pe_int) pa_nil))))
      (pss_cons (ps_expr (pe_bmK K rfl PySem.F.plainAttrs_list PySem.F.slot_list_append PySem.F.type_list_append (mt_append) (pv 2) (pa_cons (pe_tup (pa_cons pe_str (pa_cons (pv 7) (pa_cons (pe_op op_sub (pv 6) (pv 7)) pa_nil)))) pa_nil)))
      (pss_one (ps_set (i := 3) c_Llive_row.nd rfl (.inl rfl) (pe_op op_sub (pv 3) (pv 6)))))) pss_nil)))))))
      (pss_one (ps_ret (pe_callTy (cl_tuple K rfl) (by rfl) T.tuple_ (by decide +kernel) (pa_cons (pv 2) pa_nil))))))), ?_⟩
  refine n_set ⟨Nat.zero_le _, fun p hp => ?_⟩
  have tp : t ≠ p := by
    obtain ⟨_, _, _, _, h, _⟩ := ta.tp
    exact ne_of_none h hp
  have l1 : Le (fT t cs) H (upd H p (.lst [])) := Le.new hp
  have hp1 : (upd H p (.lst [])) p = some (.lst []) := upd_same
  have ta1 := l1.inv ta
  generalize upd H p (.lst []) = H1 at *
  refine n_set ⟨_, rfl, n_for ?_⟩
  refine r_pick rfl ta1 ev_int (by decide) (by decide) fun m H2 hm e2 => ⟨(m : Int), rfl, by omega, by omega, ?_⟩
  have l2 := l1.trans e2
  have hp2 := e2.keep _ _ (Ne.symm tp) hp1
  have hmt : (((m : Int)) - 0).toNat = m := by omega
  refine for_it (walk_range (lo := 0) (n := ((m : Int)).toNat)) (fun i σ H' => ∃ (gs : List LG) (us : List V) (left : Int) (x4 x5 x6 x7 : Option V), σ = [some (.ref t), some (.int 8), some (.ref p), some (.int left), x4, x5, x6, x7] ∧ Le (fT t cs) H H' ∧ H' p = some (.lst us) ∧ DtA H' us (gs.map eG) ∧ ((onSum gs + offSum gs : Nat) : Int) + left = 8 ∧ 0 ≤ left ∧ gs.length ≤ i)
    ⟨[], [], 8, _, _, _, _, rfl, l2, hp2, .nil, rfl, by decide, Nat.le_refl _⟩ (fun _ _ _ _ _ => True.intro) (fun i y σ H3 H4 hi h hy => ?_) fun σ H3 h => ?_
  · obtain ⟨gs, us, left, x4, x5, x6, x7, rfl, l3, hp3, hu3, hs, hl, hj⟩ := h
    obtain ⟨rfl, rfl⟩ := hy
    have im : i < m := by omega
    have ul : us.length ≤ 6 := by rw [hu3.length, List.length_map]; omega
    refine s_pick rfl (l3.inv ta) ev_int (by decide) (by decide) fun kd H5 hkd e5 => ?_
    have l5 := l3.trans e5
    have hp5 := e5.keep _ _ (Ne.symm tp) hp3
    refine n_set (r_op ?_)
    refine r_pick rfl (l5.inv ta) ev_int (by decide) (by decide) fun n0 H6 hn0 e6 => ⟨_, _, rfl, rfl, ?_⟩
    have l6 := l5.trans e6
    have hp6 := e6.keep _ _ (Ne.symm tp) hp5
    have hu6 := (hu3.to e5.tup).to e6.tup
    have en : (1 : Int) + (n0 : Int) = ((n0 + 1 : Nat) : Int) := by push_cast; omega
    dsimp only
    rw [en]
    generalize hn : n0 + 1 = n at *
    have n1 : 1 ≤ n := by omega
    clear hn0 hn en
    have fin : ∀ σ H', LvJ t cs p H (i + 1) kd n σ H' → ∃ (gs : List LG) (us : List V) (left : Int) (x4 x5 x6 x7 : Option V), σ = [some (.ref t), some (.int 8), some (.ref p), some (.int left), x4, x5, x6, x7] ∧ Le (fT t cs) H H' ∧ H' p = some (.lst us) ∧ DtA H' us (gs.map eG) ∧ ((onSum gs + offSum gs : Nat) : Int) + left = 8 ∧ 0 ≤ left ∧ gs.length ≤ i + 1 := by
      rintro σ H' ⟨gs, us, left, x4, x7, h1, h2, h3, h4, h5, h6, h7⟩
      exact ⟨gs, us, left, _, _, _, _, h1, h2, h3, h4, h5, h6, h7⟩
    rcases (show kd < 6 ∨ kd = 6 ∨ kd = 7 by omega) with h6 | h6 | h6
    · -- on, off
      refine s_whenJ (f := f0) (b := decide ((kd : Int) < 6) && decide ((n : Int) ≤ left)) (LvJ t cs p H (i + 1) kd n) (fun σ H7 J => ?_)
        (et_and (et_test (ev_ib (ev_var rfl (.int (kd : Int))) ev_int)) fun _ => et_test (ev_ib (ev_var rfl (.int (n : Int))) (ev_var rfl (.int left)))) (fun hb H7 e7 D' hD => ?_)
        (fun hb H7 e7 => ⟨gs, us, left, _, _, rfl, l6.trans (le_T e7), e7.keep _ _ (fun z => z) hp6, hu6.to e7.tup, hs, hl, by omega⟩)
      · obtain ⟨gs, us, left, x4, x7, rfl, h1, h2, h3, h4, h5, h6'⟩ := J
        refine s_when (f := f0) (b := false) ((et_and (b := false) (c := false) ((et_test (ev_eqI (ev_var rfl (.int (kd : Int))) ev_int)).is (decide_eq_false (by omega))) (fun z => by cases z)).is rfl) (fun z => by cases z) fun _ H8 e8 => ?_
        refine s_if (f := f0) (b := false) ((et_and (b := false) (c := false) ((et_test (ev_eqI (ev_var rfl (.int (kd : Int))) ev_int)).is (decide_eq_false (by omega))) (fun z => by cases z)).is rfl) (fun z => by cases z) fun _ H9 e9 => ?_
        exact fin _ _ ⟨gs, us, left, _, _, rfl, h1.trans (le_T (e8.trans e9)), (e8.trans e9).keep _ _ (fun z => z) h2, h3.to (e8.trans e9).tup, h4, h5, h6'⟩
      · rw [Bool.and_eq_true] at hb
        have nl : (n : Int) ≤ left := of_decide_eq_true hb.2
        have hp7 := e7.keep _ _ (fun z => z) hp6
        obtain ⟨g, hg, hat⟩ : ∃ g : LG, g.late.1 + g.late.2 = n ∧ ∃ z, atI [PyData.str "on", PyData.str "off"] ((kd : Int) / 3) = some (.str z) ∧ eG g = .tuple [.str z, .int (n : Int)] := by
          rcases (show (kd : Int) / 3 = 0 ∨ (kd : Int) / 3 = 1 by omega) with e | e
          · exact ⟨.on n, Nat.add_zero n, "on", by rw [e]; rfl, rfl⟩
          · exact ⟨.off n, Nat.zero_add n, "off", by rw [e]; rfl, rfl⟩
        obtain ⟨z, hz, eg⟩ := hat
        refine r_seq (s_app (f := f0) (evv_var rfl) hp7 (fun z => z) ((ev_tup (ea_cons (ev_ixN (el_lst (ea_cons ev_str (ea_cons ev_str ea_nil)) f0_no) f0_no (ev_ic (ev_var rfl (.int (kd : Int))) ev_int ⟨by decide, by decide +kernel⟩) hz) (ea_cons (ev_var rfl (.int (n : Int))) ea_nil))).is eg.symm) (by omega) fun v8 H8 e8 hv8 hp8 => ?_)
        dsimp only
        obtain ⟨la, ua⟩ := LvJ.app g ((l6.trans (le_T e7)).trans (le_T e8)) hp hp8 ((hu6.to e7.tup).to e8.tup) hv8
        refine s_asg (f := f0) (ev_ii (ev_var rfl (.int left)) (ev_var rfl (.int (n : Int)))) fun v9 H9 e9 hv9 => hD _ _ ?_
        obtain rfl := hv9.int_eq
        refine ⟨gs ++ [g], us ++ [v8], left - n, _, _, rfl, la.trans (le_T e9), e9.keep _ _ (fun z => z) upd_same, ua.to e9.tup, ?_, by omega, by rw [List.length_append]; exact Nat.succ_le_succ hj⟩
        rw [late_snoc, hg]
        push_cast
        push_cast at hs
        omega
    · -- moved
      refine s_when (f := f0) (b := false) ((et_and (b := false) (c := false) ((et_test (ev_ib (ev_var rfl (.int (kd : Int))) ev_int)).is (decide_eq_false (by omega))) (fun z => by cases z)).is rfl) (fun z => by cases z) fun _ H7 e7 => ?_
      have l7 := l6.trans (le_T e7)
      have hp7 := e7.keep _ _ (fun z => z) hp6
      have hu7 := hu6.to e7.tup
      refine s_whenJ (f := f0) (b := decide ((kd : Int) = 6) && decide (2 * (n : Int) ≤ left)) (LvJ t cs p H (i + 1) kd n) (fun σ H8 J => ?_)
        (et_and (et_test (ev_eqI (ev_var rfl (.int (kd : Int))) ev_int)) fun _ => et_test (ev_ib (ev_ic ev_int (ev_var rfl (.int (n : Int))) (.inl ⟨by decide, by decide⟩)) (ev_var rfl (.int left)))) (fun hb H8 e8 D' hD => ?_)
        (fun hb H8 e8 => ⟨gs, us, left, _, _, rfl, l7.trans (le_T e8), e8.keep _ _ (fun z => z) hp7, hu7.to e8.tup, hs, hl, by omega⟩)
      · obtain ⟨gs, us, left, x4, x7, rfl, h1, h2, h3, h4, h5, h6'⟩ := J
        refine s_if (f := f0) (b := false) ((et_and (b := false) (c := false) ((et_test (ev_eqI (ev_var rfl (.int (kd : Int))) ev_int)).is (decide_eq_false (by omega))) (fun z => by cases z)).is rfl) (fun z => by cases z) fun _ H9 e9 => ?_
        exact fin _ _ ⟨gs, us, left, _, _, rfl, h1.trans (le_T e9), e9.keep _ _ (fun z => z) h2, h3.to e9.tup, h4, h5, h6'⟩
      · rw [Bool.and_eq_true] at hb
        have nl : 2 * (n : Int) ≤ left := of_decide_eq_true hb.2
        have hp8 := e8.keep _ _ (fun z => z) hp7
        refine r_seq (s_app (f := f0) (evv_var rfl) hp8 (fun z => z) (ev_tup (ea_cons ev_str (ea_cons (ev_var rfl (.int (n : Int))) ea_nil))) (by omega) fun v8 H9 e9 hv8 hp9 => ?_)
        dsimp only
        obtain ⟨la, ua⟩ := LvJ.app (.mv n) ((l7.trans (le_T e8)).trans (le_T e9)) hp hp9 ((hu7.to e8.tup).to e9.tup) hv8
        refine s_asg (f := f0) (ev_ii (ev_var rfl (.int left)) (ev_ic ev_int (ev_var rfl (.int (n : Int))) (.inl ⟨by decide, by decide⟩))) fun v9 H10 e10 hv9 => hD _ _ ?_
        obtain rfl := hv9.int_eq
        refine ⟨gs ++ [.mv n], us ++ [v8], left - 2 * n, _, _, rfl, la.trans (le_T e10), e10.keep _ _ (fun z => z) upd_same, ua.to e10.tup, ?_, by omega, by rw [List.length_append]; exact Nat.succ_le_succ hj⟩
        rw [late_snoc]
        show ((onSum gs + offSum gs + (n + n) : Nat) : Int) + _ = 8
        push_cast
        push_cast at hs
        omega
    · -- slow
      refine s_when (f := f0) (b := false) ((et_and (b := false) (c := false) ((et_test (ev_ib (ev_var rfl (.int (kd : Int))) ev_int)).is (decide_eq_false (by omega))) (fun z => by cases z)).is rfl) (fun z => by cases z) fun _ H7 e7 => ?_
      refine s_when (f := f0) (b := false) ((et_and (b := false) (c := false) ((et_test (ev_eqI (ev_var rfl (.int (kd : Int))) ev_int)).is (decide_eq_false (by omega))) (fun z => by cases z)).is rfl) (fun z => by cases z) fun _ H8 e8 => ?_
      have l8 := l6.trans (le_T (e7.trans e8))
      have hp8 := (e7.trans e8).keep _ _ (fun z => z) hp6
      have hu8 := hu6.to (e7.trans e8).tup
      refine s_if (f := f0) (b := decide ((kd : Int) = 7) && decide ((n : Int) ≤ left)) (et_and (et_test (ev_eqI (ev_var rfl (.int (kd : Int))) ev_int)) fun _ => et_test (ev_ib (ev_var rfl (.int (n : Int))) (ev_var rfl (.int left)))) (fun hb H9 e9 => ?_)
        (fun hb H9 e9 => fin _ _ ⟨gs, us, left, _, _, rfl, l8.trans (le_T e9), e9.keep _ _ (fun z => z) hp8, hu8.to e9.tup, hs, hl, by omega⟩)
      rw [Bool.and_eq_true] at hb
      have nl : (n : Int) ≤ left := of_decide_eq_true hb.2
      have l9 := l8.trans (le_T e9)
      refine s_pick rfl (l9.inv ta) (ev_ii (ev_var rfl (.int (n : Int))) ev_int) (by omega) (by omega) fun a H10 ha e10 => ?_
      have l10 := l9.trans e10
      have hp10 := e10.keep _ _ (Ne.symm tp) (e9.keep _ _ (fun z => z) hp8)
      have hu10 := (hu8.to e9.tup).to e10.tup
      have en : (n : Int) - (a : Int) = ((n - a : Nat) : Int) := by omega
      refine r_seq (s_app (f := f0) (evv_var rfl) hp10 (fun z => z) ((ev_tup (ea_cons ev_str (ea_cons (ev_var rfl (.int (a : Int))) (ea_cons (ev_ii (ev_var rfl (.int (n : Int))) (ev_var rfl (.int (a : Int)))) ea_nil)))).is (e := eG (.slow a (n - a))) (by rw [en]; rfl)) (by omega) fun v8 H11 e11 hv8 hp11 => ?_)
      dsimp only
      obtain ⟨la, ua⟩ := LvJ.app (.slow a (n - a)) (l10.trans (le_T e11)) hp hp11 (hu10.to e11.tup) hv8
      refine s_asg (f := f0) (ev_ii (ev_var rfl (.int left)) (ev_var rfl (.int (n : Int)))) fun v9 H12 e12 hv9 => fin _ _ ?_
      obtain rfl := hv9.int_eq
      refine ⟨gs ++ [.slow a (n - a)], us ++ [v8], left - n, _, _, rfl, la.trans (le_T e12), e12.keep _ _ (fun z => z) upd_same, ua.to e12.tup, ?_, by omega, by rw [List.length_append]; exact Nat.succ_le_succ hj⟩
      rw [late_snoc]
      show ((onSum gs + offSum gs + (a + (n - a)) : Nat) : Int) + _ = 8
      have : a + (n - a) = n := by omega
      rw [this]
      push_cast
      push_cast at hs
      omega
  · obtain ⟨gs, us, left, x4, x5, x6, x7, rfl, l3, hp3, hu3, hs, hl, hj⟩ := h
    refine s_ret (f := f0) (ev_tupL (evv_var rfl) hp3 (fun z => z) hu3) fun r H4 e4 hr => q r H4 gs (l3.trans (le_T e4)) (by omega) (by omega) hr
end
end K13
/-! K13O: machines drawn, told wider. -/
namespace K13
open PySem PySem.Spec PyProof.Rows L2 KM
def sp_drawn : Sp := fun vs H Q _ => ∃ (t cs : Addr), vs = [.ref t] ∧ TapeAt H t cs ∧ ∀ v H' M, Le (fT t cs) H H' → Ok M → M.length ≤ 8 → Dt H' v (eM M) → Q v H'
def sp_wider : Sp := fun vs H Q _ => ∃ (t cs : Addr) (v : V) (M : Mach), vs = [.ref t, v] ∧ TapeAt H t cs ∧ Dt H v (eM M) ∧ Ok M ∧ M.length ≤ 1000 ∧ ∀ u H' W, Le (fT t cs) H H' → Ok W → W.length = 2 * M.length → Sm W 0 M 0 → Dt H' u (eM W) → Q u H'
theorem mach_ok {F : Mach} {n : Nat} (hn : 0 < n) (hl : F.length = n) (hf : ∀ r ∈ F, r.1.2 < n ∧ r.2.2 < n) : Ok F := ⟨by omega, fun i b hi => by
  have h := hf _ (List.mem_of_getElem? (row_eq hi))
  cases b
  · rw [hl]; exact h.1
  · rw [hl]; exact h.2⟩
theorem r_tc {v : V} {σ : L2.St} {H : Hp} {Q : VK} (h : Q v H) : tC v σ H Q := h
theorem req_int {a b : Int} {H : Hp} {Q : VK} (h : Q (.bl (decide (a = b))) H) : rEq (.int a) (.int b) H Q := by
  refine ⟨rfl, ?_⟩
  rw [show decide (V.int a = V.int b) = decide (a = b) by rw [dec_int, Bool.beq_eq_decide_eq]]
  exact h
section
variable {P : Program} {w : World} {K : PySem.W.Frag} {mg : Str → Option Value} {base : Heap}
theorem ok_Lmachine (T : Top mg) (A : At K mg "_law_machine" s_Lmachine ["_law_tape_here"]) (f_Lpick : Fn P w K mg base 1 "_law_pick" ["_law_tape_here", "_law_many"] sp_pick) : Fn P w K mg base 2 "_law_machine" ["_law_tape_here"] sp_drawn := by
  refine A.fn c_Lmachine (fun vs H Q E h => by obtain ⟨_, _, rfl, _⟩ := h; rfl) fun f cdv A outer s H vs Q E hr h => ?_
  obtain ⟨t, cs, rfl, ta, q⟩ := h
  refine ⟨_, (pss_cons (ps_set (i := 1) c_Lmachine.nd rfl (.inl rfl) (pe_op op_add pe_int (pe_fn f_Lpick (hr.mono (by decide)) rfl (pa_cons (pv 0) (pa_cons pe_int pa_nil)))))
      (pss_cons (ps_set (i := 2) c_Lmachine.nd rfl (.inl rfl) (pe_lst pa_nil))
      (pss_cons (ps_for PassesOwn.never rfl (pi_range1 rfl T.range_ (pa_cons (pv 1) pa_nil)) (pg_name (i := 3) c_Lmachine.nd rfl (.inl rfl)) (pss_cons (ps_set (i := 4) c_Lmachine.nd rfl (.inl rfl) (pe_lst (pa_cons (pe_cmpR op_eq (pe_fn f_Lpick (hr.mono (by decide)) rfl (pa_cons (pv 0) (pa_cons pe_int pa_nil))) pe_int (nomark _)) (pa_cons (pe_cmpR op_gt (pe_fn f_Lpick (hr.mono (by decide)) rfl (pa_cons (pv 0) (pa_cons pe_int pa_nil))) pe_int (nomark _)) pa_nil))))
      (pss_one (ps_expr (pe_bmK K rfl PySem.F.plainAttrs_list PySem.F.slot_list_append PySem.F.type_list_append (mt_append) (pv 2) (pa_cons (pe_tup (pa_cons (pe_tup (pa_cons (pe_ix (ixL K rfl) (pv 4) pe_int (fun _ _ => rfl)) (pa_cons (pe_fn f_Lpick (hr.mono (by decide)) rfl (pa_cons (pv 0) (pa_cons (pv 1) pa_nil))) pa_nil))) (pa_cons (pe_tup (pa_cons (pe_ix (ixL K rfl) (pv 4) pe_int (fun _ _ => rfl)) (pa_cons (pe_fn f_Lpick (hr.mono (by decide)) rfl (pa_cons (pv 0) (pa_cons (pv 1) pa_nil))) pa_nil))) pa_nil))) pa_nil))))))
      (pss_one (ps_ret (pe_callTy (cl_tuple K rfl) (by rfl) T.tuple_ (by decide +kernel) (pa_cons (pv 2) pa_nil))))))), ?_⟩
  refine n_set (r_op ?_)
  refine r_pick rfl ta ev_int (by decide) (by decide) fun n0 H1 hn0 e1 => ⟨_, _, rfl, rfl, ?_⟩
  have en : (1 : Int) + (n0 : Int) = ((n0 + 1 : Nat) : Int) := by push_cast; omega
  dsimp only
  rw [en]
  generalize hn : n0 + 1 = n at *
  refine n_set ⟨Nat.zero_le _, fun p hp => ?_⟩
  have ta1 := e1.inv ta
  have tp : t ≠ p := by
    obtain ⟨_, _, _, _, h, _⟩ := ta1.tp
    exact ne_of_none h hp
  have l2 : Le (fT t cs) H (upd H1 p (.lst [])) := e1.trans (Le.new hp)
  have hp2 : (upd H1 p (.lst [])) p = some (.lst []) := upd_same
  have hp0 : H p = none := by
    cases e : H p with
    | none => rfl
    | some o => rw [e1.keep p o (Ne.symm tp) e] at hp; cases hp
  generalize upd H1 p (.lst []) = H2 at *
  refine n_for ⟨_, rfl, (n : Int), rfl, by omega, by omega, ?_⟩
  have hnt : ((n : Int)).toNat = n := Int.toNat_natCast n
  refine for_it (walk_range (lo := 0) (n := ((n : Int)).toNat)) (fun i σ H' => ∃ (F : Mach) (us : List V) (x3 x4 : Option V), σ = [some (.ref t), some (.int (n : Int)), some (.ref p), x3, x4] ∧ Le (fT t cs) H H' ∧ H' p = some (.lst us) ∧ DtA H' us (F.map eRow) ∧ F.length = i ∧ ∀ r ∈ F, r.1.2 < n ∧ r.2.2 < n)
    ⟨[], [], _, _, rfl, l2, hp2, .nil, rfl, fun r hr => nomatch hr⟩ (fun _ _ _ _ _ => True.intro) (fun i y σ H3 H4 hi h hy => ?_) fun σ H3 h => ?_
  · obtain ⟨F, us, x3, x4, rfl, l3, hp3, hu3, hl, hf⟩ := h
    obtain ⟨rfl, rfl⟩ := hy
    rw [hnt] at hi
    have ul : us.length = F.length := by rw [hu3.length, List.length_map]
    -- shows
    refine n_set (r_op (r_pick rfl (l3.inv ta) ev_int (by decide) (by decide) fun a H5 _ e5 => ?_))
    refine r_tc (req_int ?_)
    have l6 := l3.trans e5
    have e6 : Le f0 H5 H5 := Le.refl _
    refine r_op (r_pick rfl (l6.inv ta) ev_int (by decide) (by decide) fun b H7 _ e7 => ⟨_, _, rfl, rfl, by show 2 ≤ sizeLine; decide, fun sh hsh => ?_⟩)
    have l7 := l6.trans e7
    have hp7 : H7 p = some (.lst us) := e7.keep _ _ (Ne.symm tp) (e6.keep _ _ (fun z => z) (e5.keep _ _ (Ne.symm tp) hp3))
    have hu7 := ((hu3.to e5.tup).to e6.tup).to e7.tup
    have psh : p ≠ sh := ne_of_none hp7 hsh
    have tsh : sh ≠ t := by
      obtain ⟨_, _, _, _, h, _⟩ := (l7.inv ta).tp
      exact Ne.symm (ne_of_none h hsh)
    dsimp only
    generalize decide ((a : Int) = 0) = s1
    generalize decide ((0 : Int) < (b : Int)) = s2
    have l8 : Le (fT t cs) H (upd H7 sh (.lst [.bl s1, .bl s2])) := l7.trans (Le.new hsh)
    have hp8 : (upd H7 sh (.lst [.bl s1, .bl s2])) p = some (.lst us) := by rw [upd_ne psh]; exact hp7
    have hu8 := hu7.to (TLe.new (o := .lst [.bl s1, .bl s2]) hsh)
    have hs8 : (upd H7 sh (.lst [.bl s1, .bl s2])) sh = some (.lst [.bl s1, .bl s2]) := upd_same
    generalize upd H7 sh (.lst [.bl s1, .bl s2]) = H8 at *
    -- the row
    refine r_drop ⟨.ref p, rfl, .inl ⟨rfl, _, SqL.of hp8⟩, ?_⟩
    refine (ev_ofV (f := f0) (d := .bool s1) (ev_ixV (evv_var rfl) hs8 (fun z => z) ev_int rfl) fun _ => .bl s1).run fun v9 H9 e9 hv9 => ?_
    obtain rfl := hv9.bl_eq
    have l9 := l8.trans (le_T e9)
    refine r_pick rfl (l9.inv ta) (ev_var rfl (.int (n : Int))) (by omega) (by omega) fun x1 H10 hx1 e10 => ⟨by show 2 ≤ sizeLine; decide, fun p1 hp1 => ?_⟩
    have l10 := l9.trans e10
    have d1 : Dt (upd H10 p1 (.tup [.bl s1, .int (x1 : Int)])) (.ref p1) (eSide (s1, x1)) := .tup upd_same (.cons (.bl s1) (.cons (.int _) .nil))
    have l11 : Le (fT t cs) H (upd H10 p1 (.tup [.bl s1, .int (x1 : Int)])) := l10.trans (Le.new hp1)
    have f11 : Le (fT t cs) H8 (upd H10 p1 (.tup [.bl s1, .int (x1 : Int)])) := ((le_T e9).trans e10).trans (Le.new hp1)
    generalize upd H10 p1 (.tup [.bl s1, .int (x1 : Int)]) = H11 at *
    have hp11 := f11.keep _ _ (Ne.symm tp) hp8
    have hs11 := f11.keep _ _ tsh hs8
    refine (ev_ofV (f := f0) (d := .bool s2) (ev_ixV (evv_var rfl) hs11 (fun z => z) ev_int rfl) fun _ => .bl s2).run fun v12 H12 e12 hv12 => ?_
    obtain rfl := hv12.bl_eq
    have l12 := l11.trans (le_T e12)
    refine r_pick rfl (l12.inv ta) (ev_var rfl (.int (n : Int))) (by omega) (by omega) fun x2 H13 hx2 e13 => ⟨by show 2 ≤ sizeLine; decide, fun p2 hp2' => ?_⟩
    have d2 : Dt (upd H13 p2 (.tup [.bl s2, .int (x2 : Int)])) (.ref p2) (eSide (s2, x2)) := .tup upd_same (.cons (.bl s2) (.cons (.int _) .nil))
    have f14 : Le (fT t cs) H11 (upd H13 p2 (.tup [.bl s2, .int (x2 : Int)])) := ((le_T e12).trans e13).trans (Le.new hp2')
    generalize upd H13 p2 (.tup [.bl s2, .int (x2 : Int)]) = H14 at *
    refine ⟨by show 2 ≤ sizeLine; decide, fun p3 hp3' => ?_⟩
    have d3 : Dt (upd H14 p3 (.tup [.ref p1, .ref p2])) (.ref p3) (eRow ((s1, x1), (s2, x2))) := .tup upd_same (.cons ((d1.to f14.tup).to (TLe.new hp3')) (.cons (d2.to (TLe.new hp3')) .nil))
    have f15 : Le (fT t cs) H8 (upd H14 p3 (.tup [.ref p1, .ref p2])) := (f11.trans f14).trans (Le.new hp3')
    generalize upd H14 p3 (.tup [.ref p1, .ref p2]) = H15 at *
    have hp15 := f15.keep _ _ (Ne.symm tp) hp8
    refine ⟨p, us, .ref p3, rfl, rfl, hp15, by rw [ul, sizeLine_eq]; omega, ?_⟩
    refine ⟨F ++ [((s1, x1), (s2, x2))], us ++ [.ref p3], _, _, rfl, le_lst (l8.trans f15) hp0 hp15, upd_same, ?_, by rw [List.length_append, hl]; rfl, fun r hr => ?_⟩
    · rw [List.map_append]
      exact ((hu8.to f15.tup).snoc d3).to (tle_lst hp15)
    · rcases List.mem_append.mp hr with hr | hr
      · exact hf r hr
      · obtain rfl := List.mem_singleton.mp hr
        exact ⟨by show x1 < n; omega, by show x2 < n; omega⟩
  · obtain ⟨F, us, x3, x4, rfl, l3, hp3, hu3, hl, hf⟩ := h
    rw [hnt] at hl
    exact s_ret (f := f0) (ev_tupL (evv_var rfl) hp3 (fun z => z) hu3) fun r H4 e4 hr => q r H4 F (l3.trans (le_T e4)) (mach_ok (by omega) hl hf) (by omega) hr
end
end K13
/-! K13P: machines told wider. -/
namespace KM
/-- a wider telling: its standings by an order that is a permutation -/
theorem wide_sm {M W : Mach} {m : Nat} (hm : M.length = m) (h0 : 0 < m) (ok : Ok M) (ol : List Nat) (hp : List.Perm ol (List.range (2 * m))) (hz : ol[0]? = some 0) (hl : W.length = 2 * m)
    (hw : ∀ (k s : Nat) (b : Bool), ol[k]? = some s → ot W k b = ot M (s % m) b ∧ ∃ x, ol[go W k b]? = some x ∧ x % m = go M (s % m) b) : Ok W ∧ Sm W 0 M 0 := by
  have ll : ol.length = 2 * m := by rw [hp.length_eq, List.length_range]
  have at_ : ∀ k, k < W.length → ∃ s, ol[k]? = some s := fun k hk => ⟨ol[k]'(by omega), by simp⟩
  have lt : ∀ i b, i < W.length → go W i b < W.length := fun i b hi => by
    obtain ⟨s, hs⟩ := at_ i hi
    obtain ⟨_, x, hx, _⟩ := hw i s b hs
    have := (List.getElem?_eq_some_iff.mp hx).1
    omega
  refine ⟨⟨by omega, lt⟩, ?_⟩
  have := hom (W := W) (M := M) (fun k => (ol[k]?.getD 0) % m) (fun k b hk => ?_) (k := 0) (by omega)
  · simp only [hz, Option.getD_some, Nat.zero_mod] at this
    exact this
  · obtain ⟨s, hs⟩ := at_ k hk
    obtain ⟨h1, x, hx, h2⟩ := hw k s b hs
    refine ⟨?_, ?_, lt k b hk⟩
    · rw [h1, hs]; rfl
    · rw [hx, hs]; exact h2
end KM
namespace K13
open PySem PySem.Spec PyProof.Rows L2 KM
/-- the lists of two sides each, that stand in a list; none of them is in N -/
def SdA (N : List Addr) (H : Hp) (sv : List V) (S : Mach) : Prop := sv.length = S.length ∧ ∀ (j : Nat) (s : Side × Side), S[j]? = some s → ∃ p a b, sv[j]? = some (.ref p) ∧ H p = some (.lst [a, b]) ∧ (∀ n ∈ N, p ≠ n) ∧ Dt H a (eSide s.1) ∧ Dt H b (eSide s.2)
section
variable {N : List Addr} {H H' : Hp} {sv : List V} {S : Mach} {t cs n : Addr} {o : HO}
theorem SdA.to (h : SdA N H sv S) (e : Le (fT t cs) H H') (ht : t ∈ N) : SdA N H' sv S := ⟨h.1, fun j s hs => by
  obtain ⟨p, a, b, h1, h2, h3, h4, h5⟩ := h.2 j s hs
  exact ⟨p, a, b, h1, e.keep _ _ (h3 t ht) h2, h3, h4.to e.tup, h5.to e.tup⟩⟩
theorem SdA.set (h : SdA N H sv S) (hn : n ∈ N) (e : TLe H (upd H n o)) : SdA N (upd H n o) sv S := ⟨h.1, fun j s hs => by
  obtain ⟨p, a, b, h1, h2, h3, h4, h5⟩ := h.2 j s hs
  exact ⟨p, a, b, h1, by rw [upd_ne (h3 n hn)]; exact h2, h3, h4.to e, h5.to e⟩⟩
theorem SdA.new (h : SdA N H sv S) (hn : H n = none) : SdA (n :: N) (upd H n o) sv S := ⟨h.1, fun j s hs => by
  obtain ⟨p, a, b, h1, h2, h3, h4, h5⟩ := h.2 j s hs
  have pn := ne_of_none h2 hn
  refine ⟨p, a, b, h1, by rw [upd_ne pn]; exact h2, fun x hx => ?_, h4.to (TLe.new hn), h5.to (TLe.new hn)⟩
  rcases List.mem_cons.mp hx with rfl | hx
  · exact pn
  · exact h3 x hx⟩
theorem SdA.snoc (h : SdA N H sv S) {p : Addr} {a b : V} {s : Side × Side} (hp : H p = some (.lst [a, b])) (hn : ∀ n ∈ N, p ≠ n) (ha : Dt H a (eSide s.1)) (hb : Dt H b (eSide s.2)) : SdA N H (sv ++ [.ref p]) (S ++ [s]) := by
  refine ⟨by rw [List.length_append, List.length_append, h.1]; rfl, fun j s' hs => ?_⟩
  rcases snoc_get hs with ⟨_, hs⟩ | ⟨h1, rfl⟩
  · obtain ⟨p, a, b, h1, h2⟩ := h.2 j s' hs
    exact ⟨p, a, b, at_app h1, h2⟩
  · exact ⟨p, a, b, by rw [h1, ← h.1]; simp, hp, hn, ha, hb⟩
end
section
variable {f : Fx} {σ : L2.St} {H : Hp} {K : PySem.W.Frag} {ta te : TE} {l : Addr}
theorem vN_get {ns : List Nat} {j x : Nat} (h : ns[j]? = some x) : (vN ns)[j]? = some (.int (x : Int)) := by unfold vN; rw [List.getElem?_map, h]; rfl
theorem eqV_nat (a b : Nat) : eqV (.int (a : Int)) (.int (b : Int)) = decide (a = b) := by
  show ((a : Int) == (b : Int)) = _
  rw [Bool.eq_iff_iff, beq_iff_eq, decide_eq_true_iff]
  exact Int.ofNat_inj
/-- l.index(x) of a list of numbers that holds it -/
theorem ev_index {ol : List Nat} {x j : Nat} (ha : EvV f ta σ H (.ref l)) (hl : H l = some (.lst (vN ol))) (hB : ¬ f.B l) (hb : EvD f te σ H (.int (x : Int))) (hn : ol.Nodup) (hx : ol[j]? = some x) : EvD f (tBM K "list" (rIndex K) ta (tCons te tNil)) σ H (.int (j : Int)) := fun H1 e1 Q q => ha H1 e1 _ fun H2 e2 => by
  have hl2 := (e1.trans e2).keep _ _ hB hl
  refine ⟨.inl ⟨rfl, _, SqL.of hl2⟩, hb H2 (e1.trans e2) _ fun w H3 e3 hw => ?_⟩
  obtain rfl := hw.int_eq
  have hl3 := e3.keep _ _ hB hl2
  refine ⟨l, vN ol, .int (x : Int), j, .int (x : Int), rfl, rfl, SqL.of hl3, rfl, ?_, vN_get hx, by rw [eqV_nat]; exact decide_eq_true rfl, fun m z hm hz => ?_, q _ H3 (e2.trans e3) (.int _)⟩
  · unfold vN; rw [List.all_map]; exact List.all_eq_true.mpr fun _ _ => rfl
  · unfold vN at hz
    rw [List.getElem?_map] at hz
    obtain ⟨y, hy, rfl⟩ := Option.map_eq_some_iff.mp hz
    rw [eqV_nat]
    refine decide_eq_false fun e => ?_
    subst e
    have := ix_of_nodup hn hy hx
    omega
end
theorem mod_add {a m x : Nat} (h : a < m) : (a + m * x) % m = a := by rw [Nat.add_mul_mod_self_left, Nat.mod_eq_of_lt h]
theorem mem_ix {ol : List Nat} {n x : Nat} (hp : List.Perm ol (List.range n)) (hx : x < n) : ∃ j : Nat, ol[j]? = some x := List.mem_iff_getElem?.mp (hp.mem_iff.mpr (List.mem_range.mpr hx))
section
variable {P : Program} {w : World} {K : PySem.W.Frag} {mg : Str → Option Value} {base : Heap}
theorem r_cons {σ : L2.St} {H : Hp} {t : TE} {tr : TA} {Q : List V → Hp → Prop} (h : t σ H fun x H1 => tr σ H1 fun xs H2 => Q (x :: xs) H2) : tCons t tr σ H Q := h
theorem r_lst {σ : L2.St} {H : Hp} {ta : TA} {Q : VK} (h : ta σ H fun vs H1 => vs.length ≤ sizeLine ∧ ∀ p, H1 p = none → Q (.ref p) (upd H1 p (.lst vs))) : tLst ta σ H Q := h
/-- (side[0], side[1] + many * pick(2)) -/
theorem r_wide {σ : L2.St} {H : Hp} {Q : VK} {E : XK} {t cs : Addr} {m i : Nat} {v : V} {s : Side} (ht : σ[0]? = some (some (.ref t))) (hm : σ[2]? = some (some (.int (m : Int)))) (hi : σ[i]? = some (some v)) (ta : TapeAt H t cs) (hz : m < 100000) (hd : Dt H v (eSide s)) (c : ∀ (x : Nat) u H', x < 2 → Le (fT t cs) H H' → Dt H' u (eSide (s.1, s.2 + m * x)) → Q u H') :
    tTup (tCons (tOp (rIxT K) (tVar i) (tC (.int 0))) (tCons (tOp (rI0 fun i j => .int (i + j)) (tOp (rIxT K) (tVar i) (tC (.int 1))) (tOp (rI CMul fun i j => .int (i * j)) (tVar 2) (tCall sp_pick [] E (tCons (tVar 0) (tCons (tC (.int 2)) tNil))))) tNil)) σ H Q := by
  have hd' : Dt H v (.tuple [.bool s.1, .int (s.2 : Int)]) := hd
  refine (ev_ixT (K := K) (f := f0) (ev_var hi hd') ev_int rfl).run fun v1 H1 e1 hv1 => ?_
  obtain rfl := hv1.bl_eq
  refine r_op ((ev_ixT (K := K) (f := f0) (ev_var hi (hd'.to e1.tup)) ev_int rfl).run fun v2 H2 e2 hv2 => ?_)
  obtain rfl := hv2.int_eq
  have l2 := le_T (T := t) (cs := cs) (e1.trans e2) 
  refine r_op ⟨_, hm, r_pick ht (l2.inv ta) ev_int (by decide) (by decide) fun x H3 hx e3 => ⟨_, _, rfl, rfl, .inl ⟨by omega, by omega⟩, _, _, rfl, rfl, by show 2 ≤ sizeLine; decide, fun p hp => ?_⟩⟩
  refine c x _ _ (by omega) ((l2.trans e3).trans (Le.new hp)) (.tup upd_same (.cons (.bl _) (.cons ?_ .nil)))
  have e : (s.2 : Int) + (m : Int) * (x : Int) = ((s.2 + m * x : Nat) : Int) := by push_cast; rfl
  dsimp only
  rw [e]
  exact .int _
theorem erase_map {α β : Type} (f : α → β) : ∀ (l : List α) (k : Nat), (l.map f).eraseIdx k = (l.eraseIdx k).map f
  | [], _ => rfl
  | _ :: _, 0 => rfl
  | a :: l, k + 1 => by
    show f a :: (l.map f).eraseIdx k = f a :: (l.eraseIdx k).map f
    rw [erase_map f l k]
theorem erase_perm : ∀ (l : List Nat) (k y : Nat), l[k]? = some y → List.Perm (y :: l.eraseIdx k) l
  | [], _, _, h => by simp at h
  | a :: l, 0, y, h => by cases h; exact List.Perm.refl _
  | a :: l, k + 1, y, h => (List.Perm.swap a y _).trans ((erase_perm l k y h).cons a)
theorem perm_pop {ol ll : List Nat} {N : List Nat} {k y : Nat} (h : List.Perm (ol ++ ll) N) (hy : ll[k]? = some y) : List.Perm ((ol ++ [y]) ++ ll.eraseIdx k) N := by
  have p1 := erase_perm ll k y hy
  rw [List.append_assoc]
  exact (p1.append_left ol).trans h
theorem ok_Lwider (T : Top mg) (A : At K mg "_law_wider" s_Lwider ["_law_tape_here", "_law_made"]) (f_Lpick : Fn P w K mg base 1 "_law_pick" ["_law_tape_here", "_law_many"] sp_pick) : Fn P w K mg base 2 "_law_wider" ["_law_tape_here", "_law_made"] sp_wider := by
  refine A.fn c_Lwider (fun vs H Q E h => by obtain ⟨_, _, _, _, rfl, _⟩ := h; rfl) fun f cdv A outer s H vs Q E hr h => ?_
  obtain ⟨t, cs, v, M, rfl, ta, hd, ok, hz, q⟩ := h
  refine ⟨_, (pss_cons (ps_set (i := 2) c_Lwider.nd rfl (.inl rfl) (pe_callB (cl_len K rfl) (by rfl) T.len_ (by decide +kernel) (pa_cons (pv 1) pa_nil)))
      (pss_cons (ps_set (i := 3) c_Lwider.nd rfl (.inl rfl) (pe_lst pa_nil))
      (pss_cons (ps_for PassesOwn.never rfl (pi_range1 rfl T.range_ (pa_cons (pe_op op_mul pe_int (pv 2)) pa_nil)) (pg_name (i := 4) c_Lwider.nd rfl (.inl rfl)) (pss_cons (ps_asg (pe_ix (ixT K rfl) (pv 1) (pe_op op_mod (pe_callTy (cl_int) (by rfl) T.int_ (by decide +kernel) (pa_cons (pv 4) pa_nil)) (pv 2)) (fun _ _ => rfl)) (pg_tup rfl (pgs_cons (pg_name (i := 5) c_Lwider.nd rfl (.inl rfl)) (pgs_cons (pg_name (i := 6) c_Lwider.nd rfl (.inl rfl)) pgs_nil))))
      (pss_one (ps_expr (pe_bmK K rfl PySem.F.plainAttrs_list PySem.F.slot_list_append PySem.F.type_list_append (mt_append) (pv 3) (pa_cons (pe_lst (pa_cons (pe_tup (pa_cons (pe_ix (ixT K rfl) (pv 5) pe_int (fun _ _ => rfl)) (pa_cons (pe_op op_add (pe_ix (ixT K rfl) (pv 5) pe_int (fun _ _ => rfl)) (pe_op op_mul (pv 2) (pe_fn f_Lpick (hr.mono (by decide)) rfl (pa_cons (pv 0) (pa_cons pe_int pa_nil))))) pa_nil))) (pa_cons (pe_tup (pa_cons (pe_ix (ixT K rfl) (pv 6) pe_int (fun _ _ => rfl)) (pa_cons (pe_op op_add (pe_ix (ixT K rfl) (pv 6) pe_int (fun _ _ => rfl)) (pe_op op_mul (pv 2) (pe_fn f_Lpick (hr.mono (by decide)) rfl (pa_cons (pv 0) (pa_cons pe_int pa_nil))))) pa_nil))) pa_nil))) pa_nil))))))
      (pss_cons (ps_set (i := 7) c_Lwider.nd rfl (.inl rfl) (pe_listRg rfl (by rfl) T.list_ (prg_2 (by rfl) T.range_ pe_int (pe_op op_mul pe_int (pv 2)))))
      (pss_cons (ps_set (i := 8) c_Lwider.nd rfl (.inl rfl) (pe_lst (pa_cons pe_int pa_nil)))
      (pss_cons (ps_for PassesOwn.never rfl (pi_range1 rfl T.range_ (pa_cons (pe_op op_sub (pe_op op_mul pe_int (pv 2)) pe_int) pa_nil)) (pg_name (i := 9) c_Lwider.nd rfl (.inl rfl)) (pss_one (ps_expr (pe_bmK K rfl PySem.F.plainAttrs_list PySem.F.slot_list_append PySem.F.type_list_append (mt_append) (pv 8) (pa_cons (pe_bmK K rfl PySem.F.plainAttrs_list PySem.F.slot_list_pop PySem.F.type_list_pop (mt_popAt) (pv 7) (pa_cons (pe_fn f_Lpick (hr.mono (by decide)) rfl (pa_cons (pv 0) (pa_cons (pe_callB (cl_len K rfl) (by rfl) T.len_ (by decide +kernel) (pa_cons (pv 7) pa_nil)) pa_nil))) pa_nil)) pa_nil)))))
      (pss_cons (ps_set (i := 10) c_Lwider.nd rfl (.inl rfl) (pe_lst pa_nil))
      (pss_cons (ps_for PassesOwn.never rfl (pi_list (pv 8)) (pg_name (i := 4) c_Lwider.nd rfl (.inl rfl)) (pss_cons (ps_asg (pe_ix (ixL K rfl) (pv 3) (pv 4) (fun _ _ => rfl)) (pg_lst rfl (pgs_cons (pg_name (i := 5) c_Lwider.nd rfl (.inl rfl)) (pgs_cons (pg_name (i := 6) c_Lwider.nd rfl (.inl rfl)) pgs_nil))))
      (pss_one (ps_expr (pe_bmK K rfl PySem.F.plainAttrs_list PySem.F.slot_list_append PySem.F.type_list_append (mt_append) (pv 10) (pa_cons (pe_tup (pa_cons (pe_tup (pa_cons (pe_ix (ixT K rfl) (pv 5) pe_int (fun _ _ => rfl)) (pa_cons (pe_bmK K rfl PySem.F.plainAttrs_list PySem.F.slot_list_index PySem.F.type_list_index (mtIndex K rfl) (pv 8) (pa_cons (pe_ix (ixT K rfl) (pv 5) pe_int (fun _ _ => rfl)) pa_nil)) pa_nil))) (pa_cons (pe_tup (pa_cons (pe_ix (ixT K rfl) (pv 6) pe_int (fun _ _ => rfl)) (pa_cons (pe_bmK K rfl PySem.F.plainAttrs_list PySem.F.slot_list_index PySem.F.type_list_index (mtIndex K rfl) (pv 8) (pa_cons (pe_ix (ixT K rfl) (pv 6) pe_int (fun _ _ => rfl)) pa_nil)) pa_nil))) pa_nil))) pa_nil))))))
      (pss_one (ps_ret (pe_callTy (cl_tuple K rfl) (by rfl) T.tuple_ (by decide +kernel) (pa_cons (pv 10) pa_nil)))))))))))), ?_⟩
  have hpos := ok.pos
  have hd' : Dt H v (.tuple (M.map eRow)) := hd
  refine s_set (f := f0) ((ev_lenT (ev_var rfl hd')).is (by rw [List.length_map])) fun v2 H1 e1 hv2 => ?_
  obtain rfl := hv2.int_eq
  generalize hm : M.length = m at *
  have l1 : Le (fT t cs) H H1 := le_T e1
  have tn : ∀ {H' : Hp} {p : Addr}, Le (fT t cs) H H' → H' p = none → t ≠ p ∧ H p = none := fun {H' p} e hp => by
    have h1 : t ≠ p := by
      obtain ⟨_, _, _, _, h, _⟩ := (e.inv ta).tp
      exact ne_of_none h hp
    exact ⟨h1, e.back (Ne.symm h1) hp⟩
  -- sides = []
  refine n_set ⟨Nat.zero_le _, fun sl hsl => ?_⟩
  obtain ⟨tsl, sl0⟩ := tn l1 hsl
  have l2 : Le (fT t cs) H (upd H1 sl (.lst [])) := l1.trans (Le.new hsl)
  have hs2 : (upd H1 sl (.lst [])) sl = some (.lst []) := upd_same
  generalize upd H1 sl (.lst []) = H2 at *
  refine n_for ⟨_, rfl, _, _, rfl, rfl, .inl ⟨by decide, by decide⟩, 2 * (m : Int), rfl, by omega, by omega, ?_⟩
  have h2m : (2 * (m : Int)).toNat = 2 * m := by omega
  refine for_it (walk_range (lo := 0) (n := (2 * (m : Int)).toNat)) (fun i σ H' => ∃ (S : Mach) (sv : List V) (x4 x5 x6 : Option V), σ = [some (.ref t), some v, some (.int (m : Int)), some (.ref sl), x4, x5, x6, none, none, none, none] ∧ Le (fT t cs) H H' ∧ H' sl = some (.lst sv) ∧ SdA [t, sl] H' sv S ∧ S.length = i ∧
      ∀ (j : Nat) (s : Side × Side), S[j]? = some s → (s.1.1 = ot M (j % m) false ∧ s.1.2 % m = go M (j % m) false ∧ s.1.2 < 2 * m) ∧ (s.2.1 = ot M (j % m) true ∧ s.2.2 % m = go M (j % m) true ∧ s.2.2 < 2 * m))
    ⟨[], [], _, _, _, rfl, l2, hs2, ⟨rfl, fun j s hs => nomatch hs⟩, rfl, fun j s hs => nomatch hs⟩ (fun _ _ _ _ _ => True.intro) (fun i y σ H3 H4 hi h hy => ?_) fun σ H3 h => ?_
  · obtain ⟨S, sv, x4, x5, x6, rfl, l3, hs3, sd3, hl, hS⟩ := h
    obtain ⟨rfl, rfl⟩ := hy
    rw [h2m] at hi
    have ez : (0 : Int) + (i : Int) = (i : Int) := Int.zero_add _
    have im : i % m < m := Nat.mod_lt _ (by omega)
    have hd4 : Dt H4 v (.tuple (M.map eRow)) := hd'.to l3.tup
    have emod : (i : Int) % (m : Int) = ((i % m : Nat) : Int) := by push_cast; rfl
    refine s_set2 (f := f0) (ev_ixT (i := ((i % m : Nat) : Int)) (ev_var rfl hd4) ((ev_ic (ev_intI (ev_var rfl (.int ((0 : Int) + (i : Int))))) (ev_var rfl (.int (m : Int))) (show (0 : Int) < m by omega)).is (by rw [ez, emod])) (row_get (by omega))) fun w1 w2 H5 e5 hw1 hw2 => ?_
    have l5 := l3.trans (le_T e5)
    have hs5 := e5.keep _ _ (fun z => z) hs3
    have sd5 := sd3.to (t := t) (cs := cs) (le_T e5) (by simp)
    have lsv := sd5.1
    refine r_drop ⟨.ref sl, rfl, .inl ⟨rfl, _, SqL.of hs5⟩, ?_⟩
    refine r_cons (r_lst (r_cons (r_wide (i := 5) (m := m) (v := w1) rfl rfl rfl (l5.inv ta) (by omega) hw1 fun x1 u1 H6 hx1 e6 hu1 => ?_)))
    have l6 := l5.trans e6
    have hw2' := hw2.to e6.tup
    refine r_cons (r_wide (i := 6) (m := m) (v := w2) rfl rfl rfl (l6.inv ta) (by omega) hw2' fun x2 u2 H7 hx2 e7 hu2 => ⟨by show 2 ≤ sizeLine; decide, fun p hp => ?_⟩)
    have l7 := l6.trans e7
    obtain ⟨tp, p0⟩ := tn l7 hp
    have hs7 : H7 sl = some (.lst sv) := e7.keep _ _ (Ne.symm tsl) (e6.keep _ _ (Ne.symm tsl) hs5)
    have slp : sl ≠ p := ne_of_none hs7 hp
    have sd7 := (sd5.to e6 (by simp)).to e7 (by simp)
    have f8 : Le (fT t cs) H7 (upd H7 p (.lst [u1, u2])) := Le.new hp
    have hs8 : (upd H7 p (.lst [u1, u2])) sl = some (.lst sv) := by rw [upd_ne slp]; exact hs7
    have sd8 := sd7.to f8 (by simp)
    have sd9 := sd8.snoc (p := p) (a := u1) (b := u2) (s := ((ot M (i % m) false, go M (i % m) false + m * x1), (ot M (i % m) true, go M (i % m) true + m * x2))) upd_same
      (fun n hn => by
        rcases List.mem_cons.mp hn with rfl | hn
        · exact Ne.symm tp
        · obtain rfl := List.mem_singleton.mp hn
          exact Ne.symm slp) ((hu1.to e7.tup).to f8.tup) (hu2.to f8.tup)
    refine ⟨sl, sv, .ref p, rfl, rfl, hs8, by rw [lsv, hl, sizeLine_eq]; omega, ?_⟩
    have l8 := l7.trans f8
    refine ⟨_, sv ++ [.ref p], _, _, _, rfl, le_lst l8 sl0 hs8, upd_same, sd9.set (by simp) (tle_lst hs8), by rw [List.length_append, hl]; rfl, fun j s hs => ?_⟩
    rcases snoc_get hs with ⟨_, hs⟩ | ⟨h1, rfl⟩
    · exact hS j s hs
    · rw [h1, hl]
      have g1 := ok.lt (i % m) false (by omega)
      have g2 := ok.lt (i % m) true (by omega)
      rw [hm] at g1 g2
      have k1 : m * x1 ≤ m * 1 := Nat.mul_le_mul_left m (by omega)
      have k2 : m * x2 ≤ m * 1 := Nat.mul_le_mul_left m (by omega)
      exact ⟨⟨rfl, mod_add g1, by show go M (i % m) false + m * x1 < 2 * m; omega⟩, rfl, mod_add g2, by show go M (i % m) true + m * x2 < 2 * m; omega⟩
  obtain ⟨S, sv, x4, x5, x6, rfl, l3, hs3, sd3, hl, hS⟩ := h
  rw [h2m] at hl
  -- left = list(range(1, 2 * many))
  dsimp only
  refine n_set ⟨_, rfl, _, _, rfl, rfl, .inl ⟨by decide, by decide⟩, 1, 2 * (m : Int), rfl, rfl, RgOk.of_le (by decide) (by omega) (by decide) (by omega), fun lf hlf => ?_⟩
  have er : rgV 1 (2 * (m : Int)) = vN ((List.range (2 * m - 1)).map (· + 1)) := by
    have e : (2 * (m : Int) - 1).toNat = 2 * m - 1 := by omega
    unfold rgV vN
    rw [e, List.map_map]
    refine List.map_congr_left fun k _ => ?_
    show V.int (1 + (k : Int)) = V.int ((k + 1 : Nat) : Int)
    congr 1
    push_cast
    omega
  rw [er]
  obtain ⟨tlf, lf0⟩ := tn l3 hlf
  have sllf : sl ≠ lf := ne_of_none hs3 hlf
  have sd4 := sd3.new (o := .lst (vN ((List.range (2 * m - 1)).map (· + 1)))) hlf
  have l4 : Le (fT t cs) H (upd H3 lf (.lst (vN ((List.range (2 * m - 1)).map (· + 1))))) := l3.trans (Le.new hlf)
  have hs4 : (upd H3 lf (.lst (vN ((List.range (2 * m - 1)).map (· + 1))))) sl = some (.lst sv) := by rw [upd_ne sllf]; exact hs3
  have hl4 : (upd H3 lf (.lst (vN ((List.range (2 * m - 1)).map (· + 1))))) lf = some (.lst (vN ((List.range (2 * m - 1)).map (· + 1)))) := upd_same
  generalize upd H3 lf (.lst (vN ((List.range (2 * m - 1)).map (· + 1)))) = H4 at *
  -- order = [0]
  dsimp only
  refine n_set (r_lst (r_cons (r_tc ⟨by show 1 ≤ sizeLine; decide, fun od hod => ?_⟩)))
  obtain ⟨tod, od0⟩ := tn l4 hod
  have slod : sl ≠ od := ne_of_none hs4 hod
  have lfod : lf ≠ od := ne_of_none hl4 hod
  have sd5 := sd4.new (o := .lst [.int 0]) hod
  have l5 : Le (fT t cs) H (upd H4 od (.lst [.int 0])) := l4.trans (Le.new hod)
  have hs5 : (upd H4 od (.lst [.int 0])) sl = some (.lst sv) := by rw [upd_ne slod]; exact hs4
  have hl5 : (upd H4 od (.lst [.int 0])) lf = some (.lst (vN ((List.range (2 * m - 1)).map (· + 1)))) := by rw [upd_ne lfod]; exact hl4
  have ho5 : (upd H4 od (.lst [.int 0])) od = some (.lst (vN [0])) := upd_same
  generalize upd H4 od (.lst [.int 0]) = H5 at *
  refine n_for ⟨_, rfl, _, _, rfl, rfl, .inl ⟨by decide, by decide⟩, _, _, rfl, rfl, 2 * (m : Int) - 1, rfl, by omega, by omega, ?_⟩
  have h2m1 : (2 * (m : Int) - 1).toNat = 2 * m - 1 := by omega
  have hp0 : List.Perm ([0] ++ (List.range (2 * m - 1)).map (· + 1)) (List.range (2 * m)) := by
    have e : 2 * m = (2 * m - 1) + 1 := by omega
    rw [e, List.range_succ_eq_map]
    exact List.Perm.refl _
  refine for_it (walk_range (lo := 0) (n := (2 * (m : Int) - 1).toNat)) (fun i σ H' => ∃ (ol ll : List Nat) (x9 : Option V), σ = [some (.ref t), some v, some (.int (m : Int)), some (.ref sl), x4, x5, x6, some (.ref lf), some (.ref od), x9, none] ∧ Le (fT t cs) H H' ∧ H' sl = some (.lst sv) ∧ SdA [od, lf, t, sl] H' sv S ∧ H' lf = some (.lst (vN ll)) ∧ H' od = some (.lst (vN ol)) ∧
      List.Perm (ol ++ ll) (List.range (2 * m)) ∧ ol[0]? = some 0 ∧ ol.length = i + 1)
    ⟨[0], _, _, rfl, l5, hs5, sd5, hl5, ho5, hp0, rfl, rfl⟩ (fun _ _ _ _ _ => True.intro) (fun i y σ H6 H7 hi h hy => ?_) fun σ H6 h => ?_
  · obtain ⟨ol, ll, x9, rfl, l6, hs6, sd6, hl6, ho6, hp, hz0, hlo⟩ := h
    obtain ⟨rfl, rfl⟩ := hy
    rw [h2m1] at hi
    have hlen := hp.length_eq
    rw [List.length_append, List.length_range, hlo] at hlen
    refine r_drop ⟨.ref od, rfl, .inl ⟨rfl, _, SqL.of ho6⟩, .ref lf, rfl, .inl ⟨rfl, _, SqL.of hl6⟩, ?_⟩
    refine r_pick rfl (l6.inv ta) ((ev_lenL (f := f0) (evv_var rfl) hl6 (fun z => z)).is (by rw [vN_len])) (by omega) (by omega) fun x H8 hx e8 => ?_
    have l8 := l6.trans e8
    have hl8 := e8.keep _ _ (Ne.symm tlf) hl6
    have ho8 := e8.keep _ _ (Ne.symm tod) ho6
    have hs8 := e8.keep _ _ (Ne.symm tsl) hs6
    have sd8 := sd6.to e8 (by simp)
    have xl : x < ll.length := by omega
    obtain ⟨y, hy⟩ : ∃ y, ll[x]? = some y := ⟨ll[x], by simp [xl]⟩
    have sq : seqIndex? (x : Int) (vN ll).length = some x := by
      refine (ixN_seq ?_).1
      unfold ixN
      rw [vN_len, if_pos (Int.natCast_nonneg x), if_pos (by omega), Int.toNat_natCast]
    refine ⟨lf, vN ll, (x : Int), x, .int (y : Int), rfl, rfl, hl8, by omega, by omega, sq, vN_get hy, ?_⟩
    have ev : (vN ll).eraseIdx x = vN (ll.eraseIdx x) := by unfold vN; exact erase_map _ _ _
    rw [ev]
    have t9 : TLe H8 (upd H8 lf (.lst (vN (ll.eraseIdx x)))) := tle_lst hl8
    have ho9 : (upd H8 lf (.lst (vN (ll.eraseIdx x)))) od = some (.lst (vN ol)) := by rw [upd_ne (Ne.symm lfod)]; exact ho8
    refine ⟨od, vN ol, .int (y : Int), rfl, rfl, ho9, by rw [vN_len, hlo, sizeLine_eq]; omega, ?_⟩
    rw [← vN_snoc]
    refine ⟨ol ++ [y], ll.eraseIdx x, _, rfl, le_lst (le_lst l8 lf0 hl8) od0 ho9, ?_, ?_, ?_, upd_same, perm_pop hp hy, at_app hz0, by rw [List.length_append, hlo]; rfl⟩
    · rw [upd_ne slod, upd_ne sllf]; exact hs8
    · exact (sd8.set (by simp) t9).set (by simp) (tle_lst ho9)
    · rw [upd_ne lfod]; exact upd_same
  obtain ⟨ol, ll, x9, rfl, l6, hs6, sd6, hl6, ho6, hp, hz0, hlo⟩ := h
  rw [h2m1] at hlo
  have hlen := hp.length_eq
  rw [List.length_append, List.length_range, hlo] at hlen
  have lle : ll = [] := List.length_eq_zero_iff.mp (by omega)
  subst lle
  rw [List.append_nil] at hp
  have hnd : ol.Nodup := hp.nodup_iff.mpr List.nodup_range
  clear hlen
  -- found = []
  dsimp only
  refine n_set ⟨Nat.zero_le _, fun fd hfd => ?_⟩
  obtain ⟨tfd, fd0⟩ := tn l6 hfd
  have slfd : sl ≠ fd := ne_of_none hs6 hfd
  have odfd : od ≠ fd := ne_of_none ho6 hfd
  have sd7 := sd6.new (o := .lst []) hfd
  have l7 : Le (fT t cs) H (upd H6 fd (.lst [])) := l6.trans (Le.new hfd)
  have hs7 : (upd H6 fd (.lst [])) sl = some (.lst sv) := by rw [upd_ne slfd]; exact hs6
  have ho7 : (upd H6 fd (.lst [])) od = some (.lst (vN ol)) := by rw [upd_ne odfd]; exact ho6
  have hf7 : (upd H6 fd (.lst [])) fd = some (.lst []) := upd_same
  generalize upd H6 fd (.lst []) = H7 at *
  refine n_for ⟨_, rfl, od, rfl, ⟨_, SqL.of ho7⟩, ?_⟩
  refine for_it (walk_list (K := K) (a := od) (xs := vN ol)) (fun i σ H' => ∃ (F : Mach) (fv : List V) (y4 y5 y6 : Option V), σ = [some (.ref t), some v, some (.int (m : Int)), some (.ref sl), y4, y5, y6, some (.ref lf), some (.ref od), x9, some (.ref fd)] ∧ Le (fT t cs) H H' ∧ H' sl = some (.lst sv) ∧ SdA [fd, od, lf, t, sl] H' sv S ∧ H' od = some (.lst (vN ol)) ∧
      H' fd = some (.lst fv) ∧ DtA H' fv (F.map eRow) ∧ F.length = i ∧ ∀ (k s : Nat) (b : Bool), k < i → ol[k]? = some s → ot F k b = ot M (s % m) b ∧ ∃ x, ol[go F k b]? = some x ∧ x % m = go M (s % m) b)
    ⟨[], [], _, _, _, rfl, l7, hs7, sd7, ho7, hf7, .nil, rfl, fun k s b hk => absurd hk (Nat.not_lt_zero _)⟩ (fun i σ H' _ h => by obtain ⟨_, _, _, _, _, _, _, _, _, h, _⟩ := h; exact SqL.of h) (fun i y σ H8 H9 hi h hy => ?_) fun σ H8 h => ?_
  · obtain ⟨F, fv, y4, y5, y6, rfl, l8, hs8, sd8, ho8, hf8, hfv8, hlF, hF⟩ := h
    obtain ⟨rfl, hy⟩ := hy
    unfold vN at hy
    rw [List.getElem?_map] at hy
    obtain ⟨s, hs, rfl⟩ := Option.map_eq_some_iff.mp hy
    have s2m : s < 2 * m := List.mem_range.mp (hp.mem_iff.mp (List.mem_of_getElem? hs))
    obtain ⟨rw', hrow⟩ : ∃ r, S[s]? = some r := ⟨S[s]'(by omega), by simp⟩
    obtain ⟨p, a, b, hsp, hpp, hpn, hda, hdb⟩ := sd8.2 s rw' hrow
    obtain ⟨⟨o1, g1, b1⟩, o2, g2, b2⟩ := hS s rw' hrow
    -- off, on = sides[at]
    refine r_seq (r_asg ((ev_ixV (K := K) (f := f0) (evv_var rfl) hs8 (fun z => z) (ev_var rfl (.int (s : Int))) (atI_nat hsp)) H9 (Le.refl _) _ fun H10 e10 => ?_))
    have hpp10 := e10.keep _ _ (fun z => z) hpp
    refine ⟨p, [a, b], rfl, SqL.of hpp10, rfl, _, _, rfl, _, _, rfl, rfl, ?_⟩
    have l10 := l8.trans (le_T e10)
    have hs10 := e10.keep _ _ (fun z => z) hs8
    have sd10 := sd8.to (t := t) (cs := cs) (le_T e10) (by simp)
    have ho10 := e10.keep _ _ (fun z => z) ho8
    have hf10 := e10.keep _ _ (fun z => z) hf8
    have hfv10 := hfv8.to e10.tup
    have ha10 : Dt H10 a (.tuple [.bool rw'.1.1, .int (rw'.1.2 : Int)]) := hda.to e10.tup
    have hb10 : Dt H10 b (.tuple [.bool rw'.2.1, .int (rw'.2.2 : Int)]) := hdb.to e10.tup
    obtain ⟨j1, hj1⟩ := mem_ix hp b1
    obtain ⟨j2, hj2⟩ := mem_ix hp b2
    have lfv : fv.length = F.length := by rw [hfv8.length, List.length_map]
    have hi' : i < 2 * m := by
      rw [vN_len] at hi; omega
    dsimp only
    refine s_app (f := f0) (evv_var rfl) hf10 (fun z => z) (ev_tup (ea_cons (ev_tup (ea_cons (ev_ixT (ev_var rfl ha10) ev_int rfl) (ea_cons (ev_index (evv_var rfl) ho10 (fun z => z) (ev_ixT (ev_var rfl ha10) ev_int rfl) hnd hj1) ea_nil))) (ea_cons (ev_tup (ea_cons (ev_ixT (ev_var rfl hb10) ev_int rfl) (ea_cons (ev_index (evv_var rfl) ho10 (fun z => z) (ev_ixT (ev_var rfl hb10) ev_int rfl) hnd hj2) ea_nil))) ea_nil))) (by omega) fun u H11 e11 hu hf11 => ?_
    have hu' : Dt H11 u (eRow ((rw'.1.1, j1), (rw'.2.1, j2))) := hu
    have l11 := l10.trans (le_T e11)
    have t12 := tle_lst (o := .lst (fv ++ [u])) hf11
    refine ⟨F ++ [((rw'.1.1, j1), (rw'.2.1, j2))], fv ++ [u], _, _, _, rfl, le_lst l11 fd0 hf11, ?_, (sd10.to (t := t) (cs := cs) (le_T e11) (by simp)).set (by simp) t12, ?_, upd_same, ?_, by rw [List.length_append, hlF]; rfl, fun k s' c hk hks => ?_⟩
    · rw [upd_ne slfd]; exact e11.keep _ _ (fun z => z) hs10
    · rw [upd_ne odfd]; exact e11.keep _ _ (fun z => z) ho10
    · rw [List.map_append]
      exact ((hfv10.to e11.tup).to t12).snoc (hu'.to t12)
    · by_cases hki : k < i
      · obtain ⟨q1, q2⟩ := hF k s' c hki hks
        have e := ot_snoc_lt (F := F) (s := ((rw'.1.1, j1), (rw'.2.1, j2))) (t := k) (by omega) c
        have e1 : ot (F ++ [((rw'.1.1, j1), (rw'.2.1, j2))]) k c = ot F k c := congrArg Prod.fst e
        have e2 : go (F ++ [((rw'.1.1, j1), (rw'.2.1, j2))]) k c = go F k c := congrArg Prod.snd e
        rw [e1, e2]
        exact ⟨q1, q2⟩
      · have ek : k = F.length := by omega
        have es : s' = s := by
          have : k = i := by omega
          rw [this, hs] at hks
          exact (Option.some.inj hks).symm
        subst es
        have e := ot_snoc (F := F) (s := ((rw'.1.1, j1), (rw'.2.1, j2))) c
        have e1 : ot (F ++ [((rw'.1.1, j1), (rw'.2.1, j2))]) F.length c = if c = true then rw'.2.1 else rw'.1.1 := by unfold ot; rw [e]; cases c <;> rfl
        have e2 : go (F ++ [((rw'.1.1, j1), (rw'.2.1, j2))]) F.length c = if c = true then j2 else j1 := by unfold go; rw [e]; cases c <;> rfl
        rw [ek, e1, e2]
        cases c
        · exact ⟨o1, _, hj1, g1⟩
        · exact ⟨o2, _, hj2, g2⟩
  · obtain ⟨F, fv, y4, y5, y6, rfl, l8, hs8, sd8, ho8, hf8, hfv8, hlF, hF⟩ := h
    rw [vN_len] at hlF hF
    have ol2 : ol.length = 2 * m := by omega
    obtain ⟨okF, smF⟩ := wide_sm hm (by omega) ok ol hp hz0 (by omega) fun k s b hk => hF k s b (List.getElem?_eq_some_iff.mp hk).1 hk
    exact s_ret (f := f0) (ev_tupL (evv_var rfl) hf8 (fun z => z) hfv8) fun r H9 e9 hr => q r H9 F (l8.trans (le_T e9)) okF (by omega) smF hr
end
end K13
/-! K13Q: the law's own tests of machines. -/
namespace K13
open PySem PySem.Spec PyProof.Rows L2 KM
/-! data that are compared -/
theorem lay_rows : ∀ M : Mach, PyData.canLayAll0 (M.map eRow) = true
  | [] => by simp [PyData.canLayAll0]
  | r :: M => by
    rw [List.map_cons]
    simp only [PyData.canLayAll0, eRow, eSide, PyData.canLay0, lay_rows M, Bool.and_true]
theorem depth_rows : ∀ M : Mach, PyData.depthAll (M.map eRow) ≤ 6
  | [] => by simp [PyData.depthAll]
  | r :: M => by
    have := depth_rows M
    rw [List.map_cons]
    simp only [PyData.depthAll, eRow, eSide, PyData.depth]
    omega
theorem shaped_M (M : Mach) : SeqAt.shaped (eM M) = true := by
  unfold SeqAt.shaped eM
  rw [Bool.and_eq_true]
  refine ⟨by simp only [PyData.canLay0]; exact lay_rows M, decide_eq_true ?_⟩
  have := depth_rows M
  simp only [PyData.depth]
  omega
theorem lay_bls : ∀ w : List Bool, PyData.canLayAll0 (w.map PyData.bool) = true
  | [] => by simp [PyData.canLayAll0]
  | b :: w => by
    rw [List.map_cons]
    simp only [PyData.canLayAll0, PyData.canLay0, lay_bls w, Bool.and_true]
theorem depth_bls : ∀ w : List Bool, PyData.depthAll (w.map PyData.bool) ≤ 6
  | [] => by simp [PyData.depthAll]
  | r :: M => by
    have := depth_bls M
    rw [List.map_cons]
    simp only [PyData.depthAll, PyData.depth]
    omega
theorem shaped_W (w : List Bool) : SeqAt.shaped (eW w) = true := by
  unfold SeqAt.shaped eW
  rw [Bool.and_eq_true]
  refine ⟨by simp only [PyData.canLay0]; exact lay_bls w, decide_eq_true ?_⟩
  have := depth_bls w
  simp only [PyData.depth]
  omega
theorem shaped_R (r : Option (List Bool)) : SeqAt.shaped (eR r) = true := by
  cases r with
  | none => rfl
  | some w => exact shaped_W w
theorem lay_ints : ∀ w : List Int, PyData.canLayAll0 (w.map PyData.int) = true
  | [] => by simp [PyData.canLayAll0]
  | b :: w => by
    rw [List.map_cons]
    simp only [PyData.canLayAll0, PyData.canLay0, lay_ints w, Bool.and_true]
theorem depth_ints : ∀ w : List Int, PyData.depthAll (w.map PyData.int) ≤ 6
  | [] => by simp [PyData.depthAll]
  | r :: M => by
    have := depth_ints M
    rw [List.map_cons]
    simp only [PyData.depthAll, PyData.depth]
    omega
theorem shaped_I (ns : List Int) : SeqAt.shaped (.list (ns.map PyData.int)) = true := by
  unfold SeqAt.shaped
  rw [Bool.and_eq_true]
  refine ⟨by simp only [PyData.canLay0]; exact lay_ints ns, decide_eq_true ?_⟩
  have := depth_ints ns
  simp only [PyData.depth]
  omega
theorem eqv_self {d : PyData} (h : SeqAt.shaped d = true) : PyData.eqv d d = true := SeqAt.eqv_refl d (SeqAt.canLay_of_shaped h)
theorem eqv_rows : ∀ M N : Mach, PyData.eqvAll (M.map eRow) (N.map eRow) = true → M = N
  | [], [], _ => rfl
  | [], _ :: _, h => by simp [PyData.eqvAll] at h
  | _ :: _, [], h => by simp [PyData.eqvAll] at h
  | r :: M, s :: N, h => by
    rw [List.map_cons, List.map_cons] at h
    simp only [PyData.eqvAll, eRow, eSide, PyData.eqv, Bool.and_true, Bool.and_eq_true, beq_iff_eq] at h
    obtain ⟨⟨⟨h1, h2⟩, h3, h4⟩, h5⟩ := h
    have e := eqv_rows M N h5
    obtain ⟨⟨a, b⟩, c, d⟩ := r
    obtain ⟨⟨a', b'⟩, c', d'⟩ := s
    simp only at h1 h2 h3 h4
    rw [e, h1, h3, Int.ofNat_inj.mp h2, Int.ofNat_inj.mp h4]
theorem eqv_M {M N : Mach} : PyData.eqv (eM M) (eM N) = decide (M = N) := by
  rw [Bool.eq_iff_iff, decide_eq_true_iff]
  constructor
  · intro h
    unfold eM at h
    simp only [PyData.eqv] at h
    exact eqv_rows M N h
  · rintro rfl
    exact eqv_self (shaped_M M)
def sp_law_is : Sp := fun vs H Q _ => ∃ M, DtA H vs [eM M] ∧ Ok M ∧ RetD H Q (.bool true)
def sp_come : Sp := fun vs H Q _ => ∃ L, DtA H vs [eM L] ∧ IsLst L L ∧ L.length ≤ 100000 ∧ ∀ p H', Same H H' → H p = none → H' p = some (.lst (vN (List.range L.length))) → Q (.ref p) H'
def sp_kinds : Sp := fun vs H Q _ => ∃ L, DtA H vs [eM L] ∧ IsLst L L ∧ L.length ≤ 8 ∧ ∀ p H' ns, Same H H' → H p = none → H' p = some (.lst (vN ns)) → ns.Nodup → ns.length = L.length → Q (.ref p) H'
def sp_is_least : Sp := fun vs H Q _ => ∃ L, DtA H vs [eM L] ∧ IsLst L L ∧ L.length ≤ 8 ∧ RetD H Q (.bool true)
def sp_counter : Sp := fun vs H Q _ => ∃ n : Nat, DtA H vs [.int (n : Int)] ∧ n ≤ 100000 ∧ RetD H Q (eM (KM.cnt n))
theorem ev_notIn {f : Fx} {σ : L2.St} {H : Hp} {K : PySem.W.Frag} {te ta : TE} {l : Addr} {m x : Nat} (hb : EvD f te σ H (.int (x : Int))) (ha : EvV f ta σ H (.ref l)) (hl : H l = some (.lst (vN (List.range m)))) (hB : ¬ f.B l) : EvD f (tOp (rIn K true) te ta) σ H (.bool (!decide (x < m))) := fun H1 e1 Q q =>
  hb H1 e1 _ fun v H2 e2 hv => ha H2 (e1.trans e2) _ fun H3 e3 => by
    obtain rfl := hv.int_eq
    refine ⟨l, _, rfl, .inl (SqL.of (((e1.trans e2).trans e3).keep _ _ hB hl)), rfl, ?_, ?_⟩
    · unfold vN; rw [List.all_map]; exact List.all_eq_true.mpr fun _ _ => rfl
    · have e : inV (.int (x : Int)) (vN (List.range m)) = decide (x < m) := by
        unfold inV vN
        rw [List.any_map, Bool.eq_iff_iff, List.any_eq_true, decide_eq_true_iff]
        constructor
        · rintro ⟨y, hy, e⟩
          have e : eqV (.int (y : Int)) (.int (x : Int)) = true := e
          rw [eqV_nat] at e
          have := List.mem_range.mp hy
          have := of_decide_eq_true e
          omega
        · intro h
          exact ⟨x, List.mem_range.mpr h, by show eqV (.int (x : Int)) (.int (x : Int)) = true; rw [eqV_nat]; exact decide_eq_true rfl⟩
      rw [e]
      exact q _ H3 (e2.trans e3) (.bl _)
section
variable {P : Program} {w : World} {K : PySem.W.Frag} {mg : Str → Option Value} {base : Heap}
theorem ok_Lis_machine (T : Top mg) (A : At K mg "_law_is_machine" s_Lis_machine ["_law_thing"]) : Fn P w K mg base 1 "_law_is_machine" ["_law_thing"] sp_law_is := by
  refine A.fn c_Lis_machine (fun vs H Q E h => by obtain ⟨_, h, _⟩ := h; exact h.length) fun f cdv A outer s H vs Q E hr h => ?_
  obtain ⟨M, h, ok, q⟩ := h
  obtain ⟨v, rfl, hd⟩ := dta1 h
  have hpos := ok.pos
  have hd' : Dt H v (.tuple (M.map eRow)) := hd
  refine ⟨_, (pss_cons (ps_if (PW.pt (pw_or (pt_not (pt_val (pe_callB (cl_isi K rfl) (by rfl) T.isinstance_ (by decide +kernel) (pa_cons (pv 0) (pa_cons (pe_bltn (v := .ty "tuple") (by rfl) T.tuple_ (by decide +kernel) rfl) pa_nil))))) (pw_or1 (pt_cmpR op_eq (pe_callB (cl_len K rfl) (by rfl) T.len_ (by decide +kernel) (pa_cons (pv 0) pa_nil)) pe_int (nomark _))))) (pss_one (ps_ret pe_bl)) pss_nil)
      (pss_cons (ps_for PassesOwn.never rfl (pi_tup (pv 0)) (pg_name (i := 1) c_Lis_machine.nd rfl (.inl rfl)) (pss_cons (ps_if (PW.pt (pw_or (pt_not (pt_val (pe_callB (cl_isi K rfl) (by rfl) T.isinstance_ (by decide +kernel) (pa_cons (pv 1) (pa_cons (pe_bltn (v := .ty "tuple") (by rfl) T.tuple_ (by decide +kernel) rfl) pa_nil))))) (pw_or1 (pt_cmpR op_ne (pe_callB (cl_len K rfl) (by rfl) T.len_ (by decide +kernel) (pa_cons (pv 1) pa_nil)) pe_int (nomark _))))) (pss_one (ps_ret pe_bl)) pss_nil)
      (pss_one (ps_for PassesOwn.never rfl (pi_tup (pv 1)) (pg_name (i := 2) c_Lis_machine.nd rfl (.inl rfl)) (pss_cons (ps_if (PW.pt (pw_or (pt_not (pt_val (pe_callB (cl_isi K rfl) (by rfl) T.isinstance_ (by decide +kernel) (pa_cons (pv 2) (pa_cons (pe_bltn (v := .ty "tuple") (by rfl) T.tuple_ (by decide +kernel) rfl) pa_nil))))) (pw_or (pt_cmpR op_ne (pe_callB (cl_len K rfl) (by rfl) T.len_ (by decide +kernel) (pa_cons (pv 2) pa_nil)) pe_int (nomark _)) (pw_or1 (pt_not (pt_val (pe_callB (cl_isi K rfl) (by rfl) T.isinstance_ (by decide +kernel) (pa_cons (pe_ix (ixT K rfl) (pv 2) pe_int (fun _ _ => rfl)) (pa_cons (pe_bltn (v := .ty "bool") (by rfl) T.bool_ (by decide +kernel) rfl) pa_nil))))))))) (pss_one (ps_ret pe_bl)) pss_nil)
      (pss_one (ps_if (PW.pt (pw_or (pt_val (pe_callB (cl_isi K rfl) (by rfl) T.isinstance_ (by decide +kernel) (pa_cons (pe_ix (ixT K rfl) (pv 2) pe_int (fun _ _ => rfl)) (pa_cons (pe_bltn (v := .ty "bool") (by rfl) T.bool_ (by decide +kernel) rfl) pa_nil)))) (pw_or (pt_not (pt_val (pe_callB (cl_isi K rfl) (by rfl) T.isinstance_ (by decide +kernel) (pa_cons (pe_ix (ixT K rfl) (pv 2) pe_int (fun _ _ => rfl)) (pa_cons (pe_bltn (v := .ty "int") (by rfl) T.int_ (by decide +kernel) rfl) pa_nil))))) (pw_or1 (pt_not (pt_chain op_le op_lt pe_int (pe_ix (ixT K rfl) (pv 2) pe_int (fun _ _ => rfl)) (pe_callB (cl_len K rfl) (by rfl) T.len_ (by decide +kernel) (pa_cons (pv 0) pa_nil)))))))) (pss_one (ps_ret pe_bl)) pss_nil)))))))
      (pss_one (ps_ret pe_bl)))), ?_⟩
  refine s_when (f := f0) (b := false) (EvT.is (et_or (et_not (et_B (ev_isi (ev_var rfl hd') k_tuple_tuple))) fun _ => et_test (ev_eqI (ev_lenT (ev_var rfl hd')) ev_int)) (by
    rw [List.length_map, decide_eq_false (show ¬ ((M.length : Int) = 0) by omega)]; rfl)) (fun z => by cases z) fun _ H1 e1 => ?_
  obtain ⟨a, us, rfl, ha, hu⟩ := (hd'.to e1.tup).tup_inv
  refine n_for ⟨_, rfl, a, rfl, ⟨us, SqT.of ha⟩, ?_⟩
  refine for_it (walk_tup (K := K) (a := a) (xs := us)) (fun i σ H' => ∃ x1 x2, σ = [some (.ref a), x1, x2] ∧ Same H H' ∧ TLe H1 H') ⟨_, _, rfl, le_same e1, TLe.refl _⟩ (fun i σ H' _ h => by obtain ⟨_, _, _, _, h⟩ := h; exact SqT.of (h _ _ ha)) (fun i y σ H2 H3 hi h hy => ?_) fun σ H2 h => ?_
  · obtain ⟨x1, x2, rfl, s2, t2⟩ := h
    obtain ⟨rfl, hy⟩ := hy
    obtain ⟨d, hg, hdy⟩ := hu.get' hy
    rw [List.getElem?_map] at hg
    obtain ⟨r, hr2, rfl⟩ := Option.map_eq_some_iff.mp hg
    have hy3 : Dt H3 y (.tuple [eSide r.1, eSide r.2]) := hdy.to t2
    refine s_when (f := f0) (b := false) (EvT.is (et_or (et_not (et_B (ev_isi (ev_var rfl hy3) k_tuple_tuple))) fun _ => et_test (ev_neI (ev_lenT (ev_var rfl hy3)) ev_int)) rfl) (fun z => by cases z) fun _ H4 e4 => ?_
    obtain ⟨b, zs, rfl, hb, hz⟩ := (hy3.to e4.tup).tup_inv
    have ilt := (List.getElem?_eq_some_iff.mp hr2).1
    refine ⟨_, rfl, b, rfl, ⟨zs, SqT.of hb⟩, ?_⟩
    have lz : zs.length = 2 := hz.length
    refine for_it (walk_tup (K := K) (a := b) (xs := zs)) (fun j σ H' => ∃ x2, σ = [some (.ref a), some (.ref b), x2] ∧ Same H H' ∧ TLe H1 H' ∧ TLe H4 H') ⟨_, rfl, s2.trans (le_same e4), t2.trans e4.tup, TLe.refl _⟩ (fun i σ H' _ h => by obtain ⟨_, _, _, _, h⟩ := h; exact SqT.of (h _ _ hb)) (fun j z σ H5 H6 hj h hz5 => ?_) fun σ H5 h => ?_
    · obtain ⟨x2, rfl, s5, t5, t5'⟩ := h
      obtain ⟨rfl, hzj⟩ := hz5
      obtain ⟨dz, hgz, hdz⟩ := hz.get' hzj
      obtain ⟨sd, hsd, hlt⟩ : ∃ sd : Side, dz = eSide sd ∧ sd.2 < M.length := by
        have l1 := ok.lt i false ilt
        have l2 := ok.lt i true ilt
        unfold go at l1 l2
        rw [sd_some hr2] at l1 l2
        have j2 : j = 0 ∨ j = 1 := by omega
        rcases j2 with rfl | rfl
        · exact ⟨r.1, (Option.some.inj hgz).symm, l1⟩
        · exact ⟨r.2, (Option.some.inj hgz).symm, l2⟩
      subst hsd
      have hz6 : Dt H6 z (.tuple [.bool sd.1, .int (sd.2 : Int)]) := hdz.to t5'
      refine s_when (f := f0) (b := false) (EvT.is (et_or (et_not (et_B (ev_isi (ev_var rfl hz6) k_tuple_tuple))) fun _ => et_or (et_test (ev_neI (ev_lenT (ev_var rfl hz6)) ev_int)) fun _ => et_not (et_B (ev_isi (ev_ixT (ev_var rfl hz6) ev_int rfl) k_bool_bool))) rfl) (fun z => by cases z) fun _ H7 e7 => ?_
      have hz7 := hz6.to e7.tup
      have hd7 := (hd'.to e1.tup).to (t5.trans e7.tup)
      refine s_if (f := f0) (b := false) (EvT.is (et_or (et_B (ev_isi (ev_ixT (ev_var rfl hz7) ev_int rfl) k_int_bool)) fun _ => et_or (et_not (et_B (ev_isi (ev_ixT (ev_var rfl hz7) ev_int rfl) k_int_int))) fun _ => et_not (et_B (ev_chain ev_int (ev_ixT (ev_var rfl hz7) ev_int rfl) fun _ => ev_lenT (ev_var rfl hd7)))) ?_) (fun z => by cases z) fun _ H8 e8 => ?_
      · rw [List.length_map, decide_eq_true (show (0 : Int) ≤ (sd.2 : Int) by omega), decide_eq_true (show (sd.2 : Int) < (M.length : Int) by omega)]
        rfl
      · exact ⟨_, rfl, s5.trans (le_same (e7.trans e8)), t5.trans (e7.trans e8).tup, t5'.trans (e7.trans e8).tup⟩
    · obtain ⟨x2, rfl, s5, t5, t5'⟩ := h
      exact ⟨_, _, rfl, s5, t5⟩
  · obtain ⟨x1, x2, rfl, s2, t2⟩ := h
    dsimp only
    refine r_ret ?_
    exact q _ H2 s2 (.bl true)
/-- found so far: the first m numbers -/
theorem ok_Lcome_to (T : Top mg) (A : At K mg "_law_come_to" s_Lcome_to ["_law_made"]) : Fn P w K mg base 1 "_law_come_to" ["_law_made"] sp_come := by
  refine A.fn c_Lcome_to (fun vs H Q E h => by obtain ⟨_, h, _⟩ := h; exact h.length) fun f cdv A outer s H vs Q E hr h => ?_
  obtain ⟨L, h, il, hz, q⟩ := h
  obtain ⟨v, rfl, hd⟩ := dta1 h
  have hd' : Dt H v (.tuple (L.map eRow)) := hd
  refine ⟨_, (pss_cons (ps_set (i := 1) c_Lcome_to.nd rfl (.inl rfl) (pe_lst (pa_cons pe_int pa_nil)))
      (pss_cons (ps_for PassesOwn.never rfl (pi_range1 rfl T.range_ (pa_cons (pe_callB (cl_len K rfl) (by rfl) T.len_ (by decide +kernel) (pa_cons (pv 0) pa_nil)) pa_nil)) (pg_name (i := 2) c_Lcome_to.nd rfl (.inl rfl)) (pss_one (ps_if (pt_cmpR op_lt (pv 2) (pe_callB (cl_len K rfl) (by rfl) T.len_ (by decide +kernel) (pa_cons (pv 1) pa_nil)) (nomark _)) (pss_one (ps_for PassesOwn.never rfl (pi_tup (pe_ix (ixT K rfl) (pv 0) (pe_ix (ixL K rfl) (pv 1) (pv 2) (fun _ _ => rfl)) (fun _ _ => rfl))) (pg_name (i := 3) c_Lcome_to.nd rfl (.inl rfl)) (pss_one (ps_if (pt_cmpR (opNotIn K rfl) (pe_ix (ixT K rfl) (pv 3) pe_int (fun _ _ => rfl)) (pv 1) (by rfl)) (pss_one (ps_expr (pe_bmK K rfl PySem.F.plainAttrs_list PySem.F.slot_list_append PySem.F.type_list_append (mt_append) (pv 1) (pa_cons (pe_ix (ixT K rfl) (pv 3) pe_int (fun _ _ => rfl)) pa_nil)))) pss_nil)))) pss_nil)))
      (pss_one (ps_ret (pv 1))))), ?_⟩
  refine n_set ⟨by show 1 ≤ sizeLine; decide, fun p hp => ?_⟩
  have s1 : Same H (upd H p (.lst [.int 0])) := same_new hp
  have hp1 : (upd H p (.lst [.int 0])) p = some (.lst (vN (List.range 1))) := upd_same
  generalize upd H p (.lst [.int 0]) = H1 at *
  refine n_for ((ev_lenT (f := f0) (ev_var rfl (hd'.to (same_tup s1)))).run fun u H2 e2 hu => ?_)
  obtain rfl := hu.int_eq
  rw [List.length_map]
  refine ⟨(L.length : Int), rfl, by omega, by omega, ?_⟩
  have hLt : ((L.length : Nat) : Int).toNat = L.length := Int.toNat_natCast _
  have s2 := s1.trans (le_same e2)
  refine for_it (walk_range (lo := 0) (n := ((L.length : Nat) : Int).toNat)) (fun i σ H' => ∃ (m : Nat) (x2 x3 : Option V), σ = [some v, some (.ref p), x2, x3] ∧ Same H H' ∧ H' p = some (.lst (vN (List.range m))) ∧ canon (L.take i) 1 = some m)
    ⟨1, _, _, rfl, s2, e2.keep _ _ (fun z => z) hp1, rfl⟩ (fun _ _ _ _ _ => True.intro) (fun i y σ H3 H4 hi h hy => ?_) fun σ H3 h => ?_
  · obtain ⟨m, x2, x3, rfl, s3, hp3, hc⟩ := h
    obtain ⟨rfl, rfl⟩ := hy
    rw [hLt] at hi
    obtain ⟨m', hg, him⟩ := il.grd i hi
    have em : m' = m := Option.some.inj (hg.symm.trans hc)
    subst em
    obtain ⟨m1, m2, a1, a2, a3⟩ := canon_row il.can hi hc
    have ml := canon_le il.can hc
    have ez : (0 : Int) + (i : Int) = (i : Int) := Int.zero_add _
    refine s_if (f := f0) (b := true) ((et_test (ev_ib (ev_var rfl (.int ((0 : Int) + (i : Int)))) (ev_lenL (evv_var rfl) hp3 (fun z => z)))).is (decide_eq_true (by rw [vN_len, List.length_range, ez]; omega))) (fun _ H5 e5 => ?_) (fun z => by cases z)
    have hp5 := e5.keep _ _ (fun z => z) hp3
    have hd5 := (hd'.to (same_tup s3)).to e5.tup
    have gi : atI (vN (List.range m')) ((0 : Int) + (i : Int)) = some (.int (i : Int)) := by
      rw [ez]; exact atI_nat (vN_get (by rw [List.getElem?_range him]))
    refine (ev_ixT (K := K) (f := f0) (ev_var rfl hd5) (ev_ixI (K := K) (evv_var rfl) hp5 (fun z => z) (ev_var rfl (.int ((0 : Int) + (i : Int)))) gi) (row_get hi)).run fun u H6 e6 hu => ?_
    obtain ⟨ra, us, rfl, hra, hus⟩ := hu.tup_inv
    have lus : us.length = 2 := hus.length
    have hp6 := e6.keep _ _ (fun z => z) hp5
    have s6 := s3.trans (le_same (e5.trans e6))
    refine ⟨ra, rfl, ⟨us, SqT.of hra⟩, ?_⟩
    refine for_it (walk_tup (K := K) (a := ra) (xs := us)) (fun j σ H' => ∃ (mj : Nat) (x3 : Option V), σ = [some v, some (.ref p), some (.int ((0 : Int) + (i : Int))), x3] ∧ Same H H' ∧ TLe H6 H' ∧ H' p = some (.lst (vN (List.range mj))) ∧ (if j = 0 then mj = m' else if j = 1 then mj = m1 else mj = m2))
      ⟨m', _, rfl, s6, TLe.refl _, hp6, rfl⟩ (fun j σ H' _ h => by obtain ⟨_, _, _, _, h, _⟩ := h; exact SqT.of (h _ _ hra)) (fun j z σ H7 H8 hj h hz7 => ?_) fun σ H7 h => ?_
    · obtain ⟨mj, x3, rfl, s7, t7, hp7, hm⟩ := h
      obtain ⟨rfl, hzj⟩ := hz7
      obtain ⟨dz, hgz, hdz⟩ := hus.get' hzj
      have mLe : ∀ x y : Nat, adv x y = some mj → True := fun _ _ _ => True.intro
      obtain ⟨b, x, hdz', hadv, hnext⟩ : ∃ (b : Bool) (x : Nat), dz = eSide (b, x) ∧ ∃ mn, adv mj x = some mn ∧ (if j + 1 = 0 then mn = m' else if j + 1 = 1 then mn = m1 else mn = m2) := by
        have j2 : j = 0 ∨ j = 1 := by omega
        rcases j2 with rfl | rfl
        · rw [if_pos rfl] at hm
          subst hm
          exact ⟨_, _, (Option.some.inj hgz).symm, m1, a1, rfl⟩
        · rw [if_neg (by decide), if_pos rfl] at hm
          subst hm
          exact ⟨_, _, (Option.some.inj hgz).symm, m2, a2, rfl⟩
      subst hdz'
      obtain ⟨had, hnx⟩ := hnext
      have hz8 : Dt H8 z (.tuple [.bool b, .int (x : Int)]) := hdz.to t7
      have mjl : mj ≤ L.length := by
        have j2 : j = 0 ∨ j = 1 := by omega
        rcases j2 with rfl | rfl
        · rw [if_pos rfl] at hm; omega
        · rw [if_neg (by decide), if_pos rfl] at hm
          have h3 := canon_le il.can a3
          rcases adv_some a2 with ⟨_, e⟩ | ⟨_, e⟩ <;> omega
      refine s_if (f := f0) (b := !decide (x < mj)) (et_test (ev_notIn (ev_ixT (ev_var rfl hz8) ev_int rfl) (evv_var rfl) hp7 (fun z => z))) (fun hb H9 e9 => ?_) fun hb H9 e9 => ?_
      · have hx : ¬ x < mj := by simpa using hb
        rcases adv_some had with ⟨h1, _⟩ | ⟨h1, h2⟩
        · exact absurd h1 hx
        · have hp9 := e9.keep _ _ (fun z => z) hp7
          refine s_app (f := f0) (evv_var rfl) hp9 (fun z => z) (ev_ixT (ev_var rfl (hz8.to e9.tup)) ev_int rfl) (by rw [vN_len, List.length_range]; omega) fun w10 H10 e10 hw10 hp10 => ?_
          obtain rfl := hw10.int_eq
          refine ⟨mj + 1, _, rfl, same_mut (s7.trans (le_same (e9.trans e10))) hp, (t7.trans (e9.trans e10).tup).trans (tle_lst hp10), ?_, ?_⟩
          · rw [upd_same, List.range_succ, vN_snoc, h1]
          · rw [h2] at hnx; exact hnx
      · have hx : x < mj := by simpa using hb
        rcases adv_some had with ⟨_, h2⟩ | ⟨h1, _⟩
        · exact ⟨mj, _, rfl, s7.trans (le_same e9), t7.trans e9.tup, e9.keep _ _ (fun z => z) hp7, by rw [h2] at hnx; exact hnx⟩
        · omega
    · obtain ⟨mj, x3, rfl, s7, t7, hp7, hm⟩ := h
      rw [lus] at hm
      have hm : mj = m2 := hm
      subst hm
      exact ⟨mj, _, _, rfl, s7, hp7, a3⟩
  · obtain ⟨m, x2, x3, rfl, s3, hp3, hc⟩ := h
    rw [hLt, List.take_length, il.can] at hc
    obtain rfl : L.length = m := Option.some.inj hc
    dsimp only
    exact r_ret ⟨_, rfl, q p H3 s3 hp hp3⟩
theorem ok_Lcounter (T : Top mg) (A : At K mg "_law_counter" s_Lcounter ["_law_n"]) : Fn P w K mg base 1 "_law_counter" ["_law_n"] sp_counter := by
  refine A.fn c_Lcounter (fun vs H Q E h => by obtain ⟨_, h, _⟩ := h; exact h.length) fun f cdv A outer s H vs Q E hr h => ?_
  obtain ⟨n, h, hz, q⟩ := h
  obtain ⟨v, rfl, hd⟩ := dta1 h
  obtain rfl := hd.int_eq
  refine ⟨_, (pss_one (ps_ret (pe_callTy (cl_tuple K rfl) (by rfl) T.tuple_ (by decide +kernel) (pa_cons (pe_lc (own := [("_law_at", 1)]) (g := gName 1) (tt := tYes) rfl c_Lcounter.nd (pi_range1 rfl T.range_ (pa_cons (pe_op op_add (pv 0) pe_int) pa_nil)) (blkOk_by (own := [("_law_at", 1)]) (N := n_Lcounter) (sc := defScope s_Lcounter) (by decide +kernel)) (fun _ _ _ _ _ => (pg_name (i := 1) c_Lcounter.nd rfl (.inl rfl))) (fun _ _ _ _ _ => pts_nil) (fun _ _ _ _ _ => (pe_tup (pa_cons (pe_tup (pa_cons pe_bl (pa_cons pe_int pa_nil))) (pa_cons (pe_tup (pa_cons (pe_cmpR op_eq (pv 1) (pv 0) (nomark _)) (pa_cons (pe_callB (cl_min2 rfl) (by rfl) T.min_ (by decide +kernel) (pa_cons (pv 0) (pa_cons (pe_op op_add (pv 1) pe_int) pa_nil))) pa_nil))) pa_nil))))) pa_nil)))), ?_⟩
  refine s_ret (f := f0) (ev_tupN (el_lcR (n := n + 1) (fun k => eRow ((false, 0), (decide (k = n), min n (k + 1)))) ((ev_ii (ev_var rfl (.int (n : Int))) ev_int).is (by push_cast; rfl)) f0_no (by omega) (fun _ => rfl) fun k hk H1 e1 => ?_)) fun r H2 e2 hr => q r H2 (le_same e2) (hr.is ?_)
  · refine EvD.is (ev_tup (ea_cons (ev_tup (ea_cons ev_bl (ea_cons ev_int ea_nil))) (ea_cons (ev_tup (ea_cons (ev_eqI (ev_var rfl (.int (k : Int))) (ev_var rfl (.int (n : Int)))) (ea_cons (ev_min2 (ev_var rfl (.int (n : Int))) (ev_ii (ev_var rfl (.int (k : Int))) ev_int)) ea_nil))) ea_nil))) ?_
    rw [minNat]
    have e5 : decide ((k : Int) = (n : Int)) = decide (k = n) := decide_eq_decide.mpr Int.ofNat_inj
    rw [e5]
    rfl
  · unfold eM KM.cnt
    rw [List.map_map]
    rfl
end
end K13
/-! K13R: is_least, shown, unlike of the law. -/
namespace K13
open PySem PySem.Spec PyProof.Rows L2 KM
def sp_Lshown : Sp := fun vs H Q _ => ∃ (M : Mach) (v : V) (a : Addr) (x : List Bool), vs = [v, .ref a] ∧ Dt H v (eM M) ∧ Ok M ∧ H a = some (.lst (x.map V.bl)) ∧ x.length ≤ 100000 ∧ ∀ p H', Same H H' → H p = none → H' p = some (.lst ((shw M 0 x).map V.bl)) → Q (.ref p) H'
theorem vN_dp {K : PySem.W.Frag} {H : Hp} {p : Addr} {ns : List Nat} (h : H p = some (.lst (vN ns))) : Dp K H (.ref p) (.list ((ns.map fun n : Nat => (n : Int)).map PyData.int)) := by
  refine .lst (SqL.of h) (DtA.dp K _ _ ?_)
  have := dta_vN (H := H) ns
  rw [List.map_map]
  exact this
theorem nodup_int : ∀ ns : List Nat, ns.Nodup → (ns.map fun n : Nat => (n : Int)).Nodup
  | [], _ => List.nodup_nil
  | n :: ns, h => by
    rw [List.nodup_cons] at h
    rw [List.map_cons, List.nodup_cons]
    refine ⟨fun hm => ?_, nodup_int ns h.2⟩
    obtain ⟨m, hm, e⟩ := List.mem_map.mp hm
    exact h.1 (Int.ofNat_inj.mp e ▸ hm)
theorem rgV_range (n : Nat) : rgV 0 (n : Int) = vN (List.range n) := by
  unfold rgV vN
  have e : ((n : Int) - 0).toNat = n := by omega
  rw [e]
  refine List.map_congr_left fun k _ => ?_
  show V.int (0 + (k : Int)) = _
  rw [Int.zero_add]
section
variable {P : Program} {w : World} {K : PySem.W.Frag} {mg : Str → Option Value} {base : Heap}
theorem ok_Lis_least (T : Top mg) (A : At K mg "_law_is_least" s_Lis_least ["_law_made"]) (f_Lis_machine : Fn P w K mg base 1 "_law_is_machine" ["_law_thing"] sp_law_is) (f_Lcome_to : Fn P w K mg base 1 "_law_come_to" ["_law_made"] sp_come) (f_Lkinds : Fn P w K mg base 1 "_law_kinds" ["_law_made"] sp_kinds) :
    Fn P w K mg base 2 "_law_is_least" ["_law_made"] sp_is_least := by
  refine A.fn c_Lis_least (fun vs H Q E h => by obtain ⟨_, h, _⟩ := h; exact h.length) fun f cdv A outer s H vs Q E hr h => ?_
  obtain ⟨L, h, il, hz, q⟩ := h
  obtain ⟨v, rfl, hd⟩ := dta1 h
  have hd' : Dt H v (.tuple (L.map eRow)) := hd
  refine ⟨_, (pss_cons (ps_if (PW.pt (pw_or (pt_not (pt_val (pe_fn f_Lis_machine (hr.mono (by decide)) rfl (pa_cons (pv 0) pa_nil)))) (pw_or1 (pt_cmpR (opNeD K rfl hr.units) (pe_fn f_Lcome_to (hr.mono (by decide)) rfl (pa_cons (pv 0) pa_nil)) (pe_listRg rfl (by rfl) T.list_ (prg_1 (by rfl) T.range_ (pe_callB (cl_len K rfl) (by rfl) T.len_ (by decide +kernel) (pa_cons (pv 0) pa_nil)))) (nomark _))))) (pss_one (ps_ret pe_bl)) pss_nil)
      (pss_one (ps_ret (pe_cmpR op_eq (pe_lenSetI rfl (by rfl) T.len_ (by rfl) T.set_ (pe_fn f_Lkinds (hr.mono (by decide)) rfl (pa_cons (pv 0) pa_nil))) (pe_callB (cl_len K rfl) (by rfl) T.len_ (by decide +kernel) (pa_cons (pv 0) pa_nil)) (nomark _))))), ?_⟩
  refine s_when (f := f0) (b := false) (EvT.is (et_or (et_not (et_B (ev_call (d := .bool true) (ea_cons (ev_var rfl hd) ea_nil) (fun H1 vs e hv Q r => ⟨L, hv, il.ok, r⟩) f0_same))) fun _ => et_test (b := false) fun H1 e1 Q' q' => ?_) rfl) (fun z => by cases z) fun _ H1 e1 => ?_
  · refine r_op (r_call1 ⟨v, rfl, L, .cons (hd.to e1.tup) .nil, il, by omega, fun p H2 s2 hp0 hp => ?_⟩)
    refine (ev_lenT (f := f0) (ev_var rfl ((hd'.to e1.tup).to (same_tup s2)))).run fun u H3 e3 hu => ?_
    obtain rfl := hu.int_eq
    rw [List.length_map]
    refine ⟨_, rfl, RgOk.of_le (by decide) (by omega) (by decide) (by omega), fun p2 hp2 => ?_⟩
    have hp3 := e3.keep _ _ (fun z => z) hp
    have hp4 : (upd H3 p2 (.lst (rgV 0 (L.length : Int)))) p = some (.lst (vN (List.range L.length))) := by rw [upd_ne (ne_of_none hp3 hp2)]; exact hp3
    have h2 : (upd H3 p2 (.lst (rgV 0 (L.length : Int)))) p2 = some (.lst (vN (List.range L.length))) := by rw [upd_same, rgV_range]
    refine ⟨_, _, vN_dp hp4, vN_dp h2, shaped_I _, shaped_I _, ?_⟩
    rw [eqv_self (shaped_I _)]
    exact q' _ _ ((same_le s2).trans (e3.trans (Le.new hp2))) (.bl false)
  · refine r_ret (r_op (r_call1 ⟨v, rfl, L, .cons (hd.to e1.tup) .nil, il, hz, fun p H2 ns s2 hp0 hp hnd hnl => ?_⟩))
    refine ⟨p, ns.map fun n : Nat => (n : Int), rfl, SqL.of (by rw [hp, List.map_map]; rfl), by rw [List.length_map]; omega, ?_, ?_⟩
    · exact nodup_int ns hnd
    · refine (ev_lenT (f := f0) (ev_var rfl ((hd'.to e1.tup).to (same_tup s2)))).run fun u H3 e3 hu => ?_
      obtain rfl := hu.int_eq
      refine req_int ?_
      rw [List.length_map, List.length_map, hnl, decide_eq_true rfl]
      exact q _ H3 ((le_same e1).trans (s2.trans (le_same e3))) (.bl true)
theorem ok_Lshown (T : Top mg) (A : At K mg "_law_shown" s_Lshown ["_law_made", "_law_flags"]) : Fn P w K mg base 1 "_law_shown" ["_law_made", "_law_flags"] sp_Lshown := by
  refine A.fn c_Lshown (fun vs H Q E h => by obtain ⟨_, _, _, _, rfl, _⟩ := h; rfl) fun f cdv A outer s H vs Q E hr h => ?_
  obtain ⟨M, v, a, x, rfl, hd, ok, ha, hz, q⟩ := h
  have hd' : Dt H v (.tuple (M.map eRow)) := hd
  refine ⟨_, (pss_cons (ps_set (i := 2) c_Lshown.nd rfl (.inl rfl) pe_int)
      (pss_cons (ps_set (i := 3) c_Lshown.nd rfl (.inl rfl) (pe_lst pa_nil))
      (pss_cons (ps_for PassesOwn.never rfl (pi_list (pv 1)) (pg_name (i := 4) c_Lshown.nd rfl (.inl rfl)) (pss_cons (ps_set (i := 5) c_Lshown.nd rfl (.inl rfl) (pe_ix (ixT K rfl) (pe_ix (ixT K rfl) (pv 0) (pv 2) (fun _ _ => rfl)) (pe_callTy (cl_int) (by rfl) T.int_ (by decide +kernel) (pa_cons (pv 4) pa_nil)) (fun _ _ => rfl)))
      (pss_cons (ps_expr (pe_bmK K rfl PySem.F.plainAttrs_list PySem.F.slot_list_append PySem.F.type_list_append (mt_append) (pv 3) (pa_cons (pe_ix (ixT K rfl) (pv 5) pe_int (fun _ _ => rfl)) pa_nil)))
      (pss_one (ps_set (i := 2) c_Lshown.nd rfl (.inl rfl) (pe_ix (ixT K rfl) (pv 5) pe_int (fun _ _ => rfl)))))))
      (pss_one (ps_ret (pv 3)))))), ?_⟩
  refine n_set (n_set ⟨Nat.zero_le _, fun p hp => ?_⟩)
  have pa : a ≠ p := ne_of_none ha hp
  have s1 : Same H (upd H p (.lst [])) := same_new hp
  have hp1 : (upd H p (.lst [])) p = some (.lst []) := upd_same
  generalize upd H p (.lst []) = H1 at *
  refine n_for ⟨_, rfl, a, rfl, ⟨_, SqL.of (s1 _ _ ha)⟩, ?_⟩
  refine for_it (walk_list (K := K) (a := a) (xs := x.map V.bl)) (fun i σ H' => ∃ x4 x5, σ = [some v, some (.ref a), some (.int ((rn M 0 (x.take i) : Nat) : Int)), some (.ref p), x4, x5] ∧ Same H H' ∧ H' p = some (.lst ((shw M 0 (x.take i)).map V.bl)))
    ⟨_, _, rfl, s1, hp1⟩ (fun i σ H' _ h => by obtain ⟨_, _, _, h, _⟩ := h; exact SqL.of (h _ _ ha)) (fun i y σ H2 H3 hi h hy => ?_) fun σ H2 h => ?_
  · obtain ⟨x4, x5, rfl, s2, hp2⟩ := h
    obtain ⟨rfl, hy⟩ := hy
    rw [List.length_map] at hi
    rw [List.getElem?_map] at hy
    obtain ⟨b, hb, rfl⟩ := Option.map_eq_some_iff.mp hy
    have tk := KM.take_next hb
    have li : rn M 0 (x.take i) < M.length := ok.rn_lt _ 0 ok.pos
    refine s_set (f := f0) (ev_ixT (ev_ixT (ev_var rfl (hd'.to (same_tup s2))) (ev_var rfl (.int _)) (row_get li)) (ev_intB (ev_var rfl (.bl b))) (side_at li b)) fun sv H4 e4 hsv => ?_
    have hsv' : Dt H4 sv (.tuple [.bool (ot M (rn M 0 (x.take i)) b), .int ((go M (rn M 0 (x.take i)) b : Nat) : Int)]) := hsv
    have hp4 := e4.keep _ _ (fun z => z) hp2
    refine r_seq (s_app (f := f0) (evv_var rfl) hp4 (fun z => z) (ev_ixT (ev_var rfl hsv') ev_int rfl) (by rw [List.length_map, shw_len, List.length_take]; omega) fun v5 H5 e5 hv5 hp5 => ?_)
    obtain rfl := hv5.bl_eq
    dsimp only
    refine s_asg (f := f0) (ev_ixT (ev_var rfl ((hsv'.to e5.tup).to (tle_lst hp5))) ev_int rfl) fun v6 H6 e6 hv6 => ?_
    obtain rfl := hv6.int_eq
    refine ⟨some (.bl b), some sv, ?_, (same_mut (s2.trans (le_same (e4.trans e5))) hp).trans (le_same e6), ?_⟩
    · rw [tk, rn_snoc]; rfl
    · rw [tk, shw_snoc, List.map_append]
      exact e6.keep _ _ (fun z => z) upd_same
  · obtain ⟨x4, x5, rfl, s2, hp2⟩ := h
    rw [List.length_map, List.take_length] at hp2
    dsimp only
    exact r_ret ⟨_, rfl, q p H2 s2 hp hp2⟩
end
end K13
/-! K13S: the law's own unlike; parted_right. -/
namespace K13
open PySem PySem.Spec PyProof.Rows L2 KM
theorem r_forL {K : PySem.W.Frag} {tl : TE} {g : TG} {tb : TS} {D : Ends} {σ : L2.St} {H : Hp} (h : tl σ H fun x H1 => ∃ a, x = .ref a ∧ (∃ xs, SqL K H1 a xs) ∧ tFor (fun _ H R => R (Itl K a) H) g tb D σ H1) : tFor (iList K tl) g tb D σ H := h
theorem hu65 {k : Nat} {A : Around} (h : Room k A) : A.units + 65 < cLine := by have := h.un; omega
theorem eqv_P {x y : Nat × Nat} : PyData.eqv (eP x) (eP y) = decide (x = y) := by
  obtain ⟨a, b⟩ := x
  obtain ⟨c, d⟩ := y
  rw [Bool.eq_iff_iff, decide_eq_true_iff]
  simp only [eP, PyData.eqv, PyData.eqvAll, Bool.and_true, Bool.and_eq_true, beq_iff_eq, Prod.mk.injEq]
  constructor
  · rintro ⟨h1, h2⟩; exact ⟨Int.ofNat_inj.mp h1, Int.ofNat_inj.mp h2⟩
  · rintro ⟨h1, h2⟩; rw [h1, h2]; exact ⟨rfl, rfl⟩
theorem lay_P : ∀ l : List (Nat × Nat), PyData.canLayAll0 (l.map eP) = true
  | [] => by simp [PyData.canLayAll0]
  | b :: w => by
    rw [List.map_cons]
    simp only [PyData.canLayAll0, eP, PyData.canLay0, lay_P w, Bool.and_true]
theorem depth_P : ∀ l : List (Nat × Nat), PyData.depthAll (l.map eP) ≤ 6
  | [] => by simp [PyData.depthAll]
  | r :: M => by
    have := depth_P M
    rw [List.map_cons]
    simp only [PyData.depthAll, eP, PyData.depth]
    omega
theorem shaped_Ps (l : List (Nat × Nat)) : SeqAt.shaped (.list (l.map eP)) = true := by
  unfold SeqAt.shaped
  rw [Bool.and_eq_true]
  refine ⟨by simp only [PyData.canLay0]; exact lay_P l, decide_eq_true ?_⟩
  have := depth_P l
  simp only [PyData.depth]
  omega
theorem shaped_P (x : Nat × Nat) : SeqAt.shaped (eP x) = true := by
  have h := lay_P [x]
  have h2 := depth_P [x]
  rw [List.map_cons, List.map_nil] at h h2
  simp only [PyData.canLayAll0, Bool.and_true] at h
  simp only [PyData.depthAll] at h2
  unfold SeqAt.shaped
  rw [Bool.and_eq_true]
  exact ⟨h, decide_eq_true (by omega)⟩
/-- a word and where it leads -/
def eWd (M N : Mach) (w : List Bool) : PyData := .tuple [eP (rc M N w), eW w]
/-- x not in met -/
theorem ev_notMet {f : Fx} {σ : L2.St} {H : Hp} {K : PySem.W.Frag} {te ta : TE} {l : Addr} {us : List V} {x : Nat × Nat} {ps : List (Nat × Nat)} (hb : EvD f te σ H (eP x)) (ha : EvV f ta σ H (.ref l)) (hl : H l = some (.lst us)) (hu : DtA H us (ps.map eP)) (hB : ¬ f.B l) : EvD f (tOp (rNotInD K) te ta) σ H (.bool (!decide (x ∈ ps))) := fun H1 e1 Q q =>
  hb H1 e1 _ fun v H2 e2 hv => ha H2 (e1.trans e2) _ fun H3 e3 => by
    have e := (e1.trans e2).trans e3
    refine ⟨eP x, ps.map eP, (hv.to e3.tup).dp K, .lst (SqL.of (e.keep _ _ hB hl)) (DtA.dp K _ _ (hu.to e.tup)), shaped_P x, shaped_Ps ps, ?_⟩
    have h : ((ps.map eP).any fun z => PyData.eqv z (eP x)) = decide (x ∈ ps) := by
      rw [List.any_map, Bool.eq_iff_iff, List.any_eq_true, decide_eq_true_iff]
      constructor
      · rintro ⟨y, hy, h⟩
        have h : PyData.eqv (eP y) (eP x) = true := h
        rw [eqv_P] at h
        rw [← of_decide_eq_true h]
        exact hy
      · intro h
        exact ⟨x, h, by show PyData.eqv (eP x) (eP x) = true; rw [eqv_P]; exact decide_eq_true rfl⟩
    rw [h]
    exact q _ H3 (e2.trans e3) (.bl _)
section
variable {P : Program} {w : World} {K : PySem.W.Frag} {mg : Str → Option Value} {base : Heap}
def LayJ (M N : Mach) (H : Hp) (v1 v2 : V) (ly me : Addr) (x4 : Option V) (E : List (List Bool)) (lv : List V) (lt : Addr) (q : Nat) (σ : L2.St) (H' : Hp) : Prop :=
  ∃ (E' : List (List Bool)) (mv tv : List V) (x6 x7 x8 x9 x10 : Option V), σ = [some v1, some v2, some (.ref ly), some (.ref me), x4, some (.ref lt), x6, x7, x8, x9, x10] ∧ Same H H' ∧ H' ly = some (.lst lv) ∧ DtA H' lv (((E.drop q).map (eWd M N))) ∧ H' me = some (.lst mv) ∧ DtA H' mv ((E'.map (rc M N)).map eP) ∧
    H' lt = some (.lst tv) ∧ DtA H' tv ((E'.drop E.length).map (eWd M N)) ∧ E.length ≤ E'.length ∧ (∀ (j : Nat) x, E[j]? = some x → E'[j]? = some x)
theorem ok_Lunlike (T : Top mg) (A : At K mg "_law_unlike" s_Lunlike ["_law_one", "_law_other"]) : Fn P w K mg base 1 "_law_unlike" ["_law_one", "_law_other"] sp_unlike := by
  refine A.fn c_Lunlike (fun vs H Q E h => by obtain ⟨_, _, h, _⟩ := h; exact h.length) fun f cdv A outer s H vs Q E' hr h => ?_
  obtain ⟨M, N, h, okM, okN, zM, zN, zMN, q⟩ := h
  obtain ⟨v1, v2, rfl, h1, h2⟩ := dta2 h
  have h1' : Dt H v1 (.tuple (M.map eRow)) := h1
  have h2' : Dt H v2 (.tuple (N.map eRow)) := h2
  refine ⟨_, (pss_cons (ps_set (i := 2) c_Lunlike.nd rfl (.inl rfl) (pe_lst (pa_cons (pe_tup (pa_cons (pe_tup (pa_cons pe_int (pa_cons pe_int pa_nil))) (pa_cons (pe_tup pa_nil) pa_nil))) pa_nil)))
      (pss_cons (ps_set (i := 3) c_Lunlike.nd rfl (.inl rfl) (pe_lst (pa_cons (pe_tup (pa_cons pe_int (pa_cons pe_int pa_nil))) pa_nil)))
      (pss_cons (ps_for PassesOwn.never rfl (pi_range1 rfl T.range_ (pa_cons (pe_op op_mul (pe_callB (cl_len K rfl) (by rfl) T.len_ (by decide +kernel) (pa_cons (pv 0) pa_nil)) (pe_callB (cl_len K rfl) (by rfl) T.len_ (by decide +kernel) (pa_cons (pv 1) pa_nil))) pa_nil)) (pg_name (i := 4) c_Lunlike.nd rfl (.inl rfl)) (pss_cons (ps_set (i := 5) c_Lunlike.nd rfl (.inl rfl) (pe_lst pa_nil))
      (pss_cons (ps_for PassesOwn.never rfl (pi_list (pv 2)) (pg_tup rfl (pgs_cons (pg_name (i := 6) c_Lunlike.nd rfl (.inl rfl)) (pgs_cons (pg_name (i := 7) c_Lunlike.nd rfl (.inl rfl)) pgs_nil))) (pss_one (ps_for PassesOwn.never rfl (pi_list (pe_lst (pa_cons pe_bl (pa_cons pe_bl pa_nil)))) (pg_name (i := 8) c_Lunlike.nd rfl (.inl rfl)) (pss_cons (ps_set (i := 9) c_Lunlike.nd rfl (.inl rfl) (pe_ix (ixT K rfl) (pe_ix (ixT K rfl) (pv 0) (pe_ix (ixT K rfl) (pv 6) pe_int (fun _ _ => rfl)) (fun _ _ => rfl)) (pe_callTy (cl_int) (by rfl) T.int_ (by decide +kernel) (pa_cons (pv 8) pa_nil)) (fun _ _ => rfl)))
      (pss_cons (ps_set (i := 10) c_Lunlike.nd rfl (.inl rfl) (pe_ix (ixT K rfl) (pe_ix (ixT K rfl) (pv 1) (pe_ix (ixT K rfl) (pv 6) pe_int (fun _ _ => rfl)) (fun _ _ => rfl)) (pe_callTy (cl_int) (by rfl) T.int_ (by decide +kernel) (pa_cons (pv 8) pa_nil)) (fun _ _ => rfl)))
      (pss_cons (ps_if (pt_cmpR op_ne (pe_ix (ixT K rfl) (pv 9) pe_int (fun _ _ => rfl)) (pe_ix (ixT K rfl) (pv 10) pe_int (fun _ _ => rfl)) (nomark _)) (pss_one (ps_ret (pe_op (opCatA K rfl) (pv 7) (pe_tup (pa_cons (pv 8) pa_nil))))) pss_nil)
      (pss_one (ps_if (pt_cmpR (opInD K rfl (hu65 hr)) (pe_tup (pa_cons (pe_ix (ixT K rfl) (pv 9) pe_int (fun _ _ => rfl)) (pa_cons (pe_ix (ixT K rfl) (pv 10) pe_int (fun _ _ => rfl)) pa_nil))) (pv 3) (by rfl)) (pss_cons (ps_expr (pe_bmK K rfl PySem.F.plainAttrs_list PySem.F.slot_list_append PySem.F.type_list_append (mt_append) (pv 3) (pa_cons (pe_tup (pa_cons (pe_ix (ixT K rfl) (pv 9) pe_int (fun _ _ => rfl)) (pa_cons (pe_ix (ixT K rfl) (pv 10) pe_int (fun _ _ => rfl)) pa_nil))) pa_nil)))
      (pss_one (ps_expr (pe_bmK K rfl PySem.F.plainAttrs_list PySem.F.slot_list_append PySem.F.type_list_append (mt_append) (pv 5) (pa_cons (pe_tup (pa_cons (pe_tup (pa_cons (pe_ix (ixT K rfl) (pv 9) pe_int (fun _ _ => rfl)) (pa_cons (pe_ix (ixT K rfl) (pv 10) pe_int (fun _ _ => rfl)) pa_nil))) (pa_cons (pe_op (opCatA K rfl) (pv 7) (pe_tup (pa_cons (pv 8) pa_nil))) pa_nil))) pa_nil))))) pss_nil))))))))
      (pss_one (ps_set (i := 2) c_Lunlike.nd rfl (.inl rfl) (pv 5))))))
      (pss_one (ps_ret pe_non))))), ?_⟩
  refine s_setL (f := f0) (el_lst (ea_cons (ev_tup (ea_cons (ev_tup (ea_cons ev_int (ea_cons ev_int ea_nil))) (ea_cons (ev_tup ea_nil) ea_nil))) ea_nil) f0_no) fun ly0 lv0 H1 e1 ly00 hly0 hlv0 => ?_
  refine s_setL (f := f0) (el_lst (ea_cons (ev_tup (ea_cons ev_int (ea_cons ev_int ea_nil))) ea_nil) f0_no) fun me mv0 H2 e2 hme0 hme hmv0 => ?_
  have me0 : H me = none := (le_same e1).free hme0
  have hly2 := e2.keep _ _ (fun z => z) hly0
  have lyme0 : ly0 ≠ me := ne_of_none hly0 hme0
  have hlv2 := hlv0.to e2.tup
  have s2 : Same H H2 := (le_same e1).trans (le_same e2)
  refine n_for ((ev_ic (f := f0) (ev_lenT (ev_var rfl (h1'.to (same_tup s2)))) (ev_lenT (ev_var rfl (h2'.to (same_tup s2)))) (.inl ⟨by rw [List.length_map]; omega, by rw [List.length_map]; omega⟩)).run fun u H3 e3 hu => ?_)
  obtain rfl := hu.int_eq
  rw [List.length_map, List.length_map]
  have emn : (M.length : Int) * (N.length : Int) = ((M.length * N.length : Nat) : Int) := by push_cast; rfl
  rw [emn]
  refine ⟨_, rfl, by omega, by omega, ?_⟩
  have hmn : ((M.length * N.length : Nat) : Int).toNat = M.length * N.length := Int.toNat_natCast _
  have hly3 := e3.keep _ _ (fun z => z) hly2
  have hme3 := e3.keep _ _ (fun z => z) hme
  refine for_it (walk_range (lo := 0) (n := ((M.length * N.length : Nat) : Int).toNat)) (fun i σ H' => ∃ (E : List (List Bool)) (a : Nat) (ly : Addr) (lv mv : List V) (x4 x5 x6 x7 x8 x9 x10 : Option V), σ = [some v1, some v2, some (.ref ly), some (.ref me), x4, x5, x6, x7, x8, x9, x10] ∧ Same H H' ∧ H' ly = some (.lst lv) ∧ DtA H' lv ((E.drop a).map (eWd M N)) ∧ H' me = some (.lst mv) ∧ DtA H' mv ((E.map (rc M N)).map eP) ∧
      UInv M N E (2 * a) ∧ a ≤ E.length ∧ (a = E.length ∨ i ≤ a) ∧ H ly = none ∧ ly ≠ me)
    ⟨[[]], 0, ly0, lv0, mv0, _, _, _, _, _, _, _, rfl, s2.trans (le_same e3), hly3, hlv2.to e3.tup, hme3, hmv0.to e3.tup, UInv.init M N, Nat.zero_le _, .inr (Nat.le_refl _), ly00, lyme0⟩ (fun _ _ _ _ _ => True.intro) (fun i y σ H4 H5 hi h hy => ?_) fun σ H4 h => ?_
  · obtain ⟨E, a, ly, lv, mv, x4, x5, x6, x7, x8, x9, x10, rfl, s4, hly4, hlv4, hme4, hmv4, U4, ale, aor, ly0', lyme⟩ := h
    obtain ⟨rfl, rfl⟩ := hy
    have fewE := U4.few okM okN
    -- later = []
    refine n_set ⟨Nat.zero_le _, fun lt hlt => ?_⟩
    have lt0 : H lt = none := s4.free hlt
    have lylt : ly ≠ lt := ne_of_none hly4 hlt
    have melt : me ≠ lt := ne_of_none hme4 hlt
    have t6 : TLe H5 (upd H5 lt (.lst [])) := TLe.new hlt
    have s6 : Same H (upd H5 lt (.lst [])) := s4.trans (same_new hlt)
    have hly6 : (upd H5 lt (.lst [])) ly = some (.lst lv) := by rw [upd_ne lylt]; exact hly4
    have hme6 : (upd H5 lt (.lst [])) me = some (.lst mv) := by rw [upd_ne melt]; exact hme4
    have hlt6 : (upd H5 lt (.lst [])) lt = some (.lst []) := upd_same
    have hlv6 := hlv4.to t6
    have hmv6 := hmv4.to t6
    generalize upd H5 lt (.lst []) = H6 at *
    have llv : lv.length = E.length - a := by rw [hlv6.length, List.length_map, List.length_drop]
    refine n_for ⟨_, rfl, ly, rfl, ⟨_, SqL.of hly6⟩, ?_⟩
    refine for_it (walk_list (K := K) (a := ly) (xs := lv)) (fun k σ H' => ∃ (E' : List (List Bool)) (mv tv : List V) (x6 x7 x8 x9 x10 : Option V), σ = [some v1, some v2, some (.ref ly), some (.ref me), some (.int ((0 : Int) + (i : Int))), some (.ref lt), x6, x7, x8, x9, x10] ∧ Same H H' ∧ H' ly = some (.lst lv) ∧ DtA H' lv ((E.drop a).map (eWd M N)) ∧ H' me = some (.lst mv) ∧
        DtA H' mv ((E'.map (rc M N)).map eP) ∧ H' lt = some (.lst tv) ∧ DtA H' tv ((E'.drop E.length).map (eWd M N)) ∧ E.length ≤ E'.length ∧ (∀ (j : Nat) x, E[j]? = some x → E'[j]? = some x) ∧ UInv M N E' (2 * (a + k)) ∧ (lv.length = 0 → E' = E))
      ⟨E, mv, [], _, _, _, _, _, rfl, s6, hly6, hlv6, hme6, hmv6, hlt6, by rw [List.drop_length]; exact .nil, Nat.le_refl _, fun _ _ h => h, U4, fun _ => rfl⟩ (fun k σ H' _ h => by obtain ⟨_, _, _, _, _, _, _, _, _, _, h, _⟩ := h; exact SqL.of h) (fun k y σ H7 H8 hk h hy => ?_) fun σ H7 h => ?_
    · obtain ⟨E', mv, tv, y6, y7, y8, y9, y10, rfl, s7, hly7, hlv7, hme7, hmv7, hlt7, htv7, ele, pre, U7, _⟩ := h
      obtain ⟨rfl, hy⟩ := hy
      obtain ⟨dd, hg, hdy⟩ := hlv7.get' hy
      rw [List.getElem?_map, List.getElem?_drop] at hg
      obtain ⟨u, hu, rfl⟩ := Option.map_eq_some_iff.mp hg
      have hu7 := pre _ _ hu
      obtain ⟨ya, ys, rfl, hya, hys⟩ := (show Dt H8 y (.tuple [eP (rc M N u), eW u]) from hdy).tup_inv
      obtain ⟨pv, fv, rfl, hpv, hfv⟩ := dta2 hys
      refine ⟨ya, _, rfl, SqT.of hya, rfl, _, _, rfl, _, _, rfl, rfl, ?_⟩
      dsimp only
      refine r_forL ((el_lst (f := f0) (ea_cons (ev_bl (b := false)) (ea_cons (ev_bl (b := true)) ea_nil)) f0_no) H8 (Le.refl _) _ fun bl bv H9 e9 hbl0 hbl hbv => ?_)
      have ebv : bv = [.bl false, .bl true] := DtA.bls (ns := [false, true]) hbv
      subst ebv
      refine ⟨bl, rfl, ⟨_, SqL.of hbl⟩, ?_⟩
      have li : rn M 0 u < M.length := okM.rn_lt u 0 okM.pos
      have lj : rn N 0 u < N.length := okN.rn_lt u 0 okN.pos
      have bly : ly ≠ bl := ne_of_none hly7 hbl0
      have bme : me ≠ bl := ne_of_none hme7 hbl0
      have blt : lt ≠ bl := ne_of_none hlt7 hbl0
      refine for_it (walk_list (K := K) (a := bl) (xs := [.bl false, .bl true])) (fun c σ H' => ∃ (E' : List (List Bool)) (mv tv : List V) (x8 x9 x10 : Option V), σ = [some v1, some v2, some (.ref ly), some (.ref me), some (.int ((0 : Int) + (i : Int))), some (.ref lt), some pv, some fv, x8, x9, x10] ∧ Same H H' ∧ H' ly = some (.lst lv) ∧ DtA H' lv ((E.drop a).map (eWd M N)) ∧ H' me = some (.lst mv) ∧
          DtA H' mv ((E'.map (rc M N)).map eP) ∧ H' lt = some (.lst tv) ∧ DtA H' tv ((E'.drop E.length).map (eWd M N)) ∧ E.length ≤ E'.length ∧ (∀ (j : Nat) x, E[j]? = some x → E'[j]? = some x) ∧ UInv M N E' (2 * (a + k) + c) ∧ H' bl = some (.lst [.bl false, .bl true]) ∧ Dt H' pv (eP (rc M N u)) ∧ Dt H' fv (eW u))
        ⟨E', mv, tv, _, _, _, rfl, s7.trans (le_same e9), e9.keep _ _ (fun z => z) hly7, hlv7.to e9.tup, e9.keep _ _ (fun z => z) hme7, hmv7.to e9.tup, e9.keep _ _ (fun z => z) hlt7, htv7.to e9.tup, ele, pre, U7, hbl, hpv.to e9.tup, hfv.to e9.tup⟩
        (fun c σ H' _ h => by obtain ⟨_, _, _, _, _, _, _, _, _, _, _, _, _, _, _, _, _, h, _⟩ := h; exact SqL.of h) (fun c bx σ H10 H11 hc h hbx => ?_) fun σ H10 h => ?_
      · obtain ⟨E', mv, tv, y8, y9, y10, rfl, s10, hly10, hlv10, hme10, hmv10, hlt10, htv10, ele, pre, U10, hbl10, hpv10, hfv10⟩ := h
        obtain ⟨rfl, hbx⟩ := hbx
        obtain ⟨b, rfl, hcb⟩ : ∃ b : Bool, bx = .bl b ∧ c = b.toNat := by
          have hi2 : c = 0 ∨ c = 1 := by simp at hc; omega
          rcases hi2 with rfl | rfl
          · exact ⟨false, (Option.some.inj hbx).symm, rfl⟩
          · exact ⟨true, (Option.some.inj hbx).symm, rfl⟩
        subst hcb
        have hu10 := pre _ _ hu
        have few10 := U10.few okM okN
        have dp : Dt H11 pv (.tuple [.int ((rn M 0 u : Nat) : Int), .int ((rn N 0 u : Nat) : Int)]) := hpv10
        have d1 : Dt H11 v1 (.tuple (M.map eRow)) := h1'.to (same_tup s10)
        have d2 : Dt H11 v2 (.tuple (N.map eRow)) := h2'.to (same_tup s10)
        refine s_set (f := f0) (ev_ixT (ev_ixT (ev_var rfl d1) (ev_ixT (ev_var rfl dp) ev_int rfl) (row_get li)) (ev_intB (ev_var rfl (.bl b))) (side_at li b)) fun m1 H12 e12 hm1 => ?_
        refine s_set (f := f0) (ev_ixT (ev_ixT (ev_var rfl (d2.to e12.tup)) (ev_ixT (ev_var rfl (dp.to e12.tup)) ev_int rfl) (row_get lj)) (ev_intB (ev_var rfl (.bl b))) (side_at lj b)) fun m2 H13 e13 hm2 => ?_
        have hm1' : Dt H13 m1 (.tuple [.bool (ot M (rn M 0 u) b), .int ((go M (rn M 0 u) b : Nat) : Int)]) := hm1.to e13.tup
        have hm2' : Dt H13 m2 (.tuple [.bool (ot N (rn N 0 u) b), .int ((go N (rn N 0 u) b : Nat) : Int)]) := hm2
        have sh := U10.short _ _ u (Nat.le_refl _) hu10
        have ual := (List.getElem?_eq_some_iff.mp hu10).1
        refine s_when (f := f0) (b := !(ot M (rn M 0 u) b == ot N (rn N 0 u) b)) (et_test (ev_neB (ev_ixT (ev_var rfl hm1') ev_int rfl) (ev_ixT (ev_var rfl hm2') ev_int rfl))) (fun hb H14 e14 => ?_) fun hb H14 e14 => ?_
        · have hne : ot M (rn M 0 u) b ≠ ot N (rn N 0 u) b := by
            intro e; rw [e, beq_self_eq_true] at hb; cases hb
          have fnd := U10.found rfl hu10 hne
          have e114 := (e12.trans e13).trans e14
          have hf14 : Dt H14 fv (.tuple (u.map PyData.bool)) := hfv10.to e114.tup
          refine s_ret (f := f0) (ev_catT (ev_var rfl hf14) (ev_tup (ea_cons (ev_var rfl (.bl b)) ea_nil)) (by rw [List.length_map, List.length_singleton]; omega)) fun r H15 e15 hr => ?_
          refine q (some (u ++ [b])) r H15 (s10.trans (le_same (e114.trans e15))) fnd (fun x hx => ?_) (hr.is ?_)
          · rw [← Option.some.inj hx, List.length_append, List.length_singleton]
            omega
          · show _ = PyData.tuple ((u ++ [b]).map PyData.bool)
            rw [List.map_append]
            rfl
        · have heq : ot M (rn M 0 u) b = ot N (rn N 0 u) b := by
            have : (ot M (rn M 0 u) b == ot N (rn N 0 u) b) = true := by
              cases h : (ot M (rn M 0 u) b == ot N (rn N 0 u) b) with
              | true => rfl
              | false => rw [h] at hb; cases hb
            exact beq_iff_eq.mp this
          have e114 := (e12.trans e13).trans e14
          have s14 := s10.trans (le_same e114)
          have hly14 := e114.keep _ _ (fun z => z) hly10
          have hlv14 := hlv10.to e114.tup
          have hme14 := e114.keep _ _ (fun z => z) hme10
          have hmv14 := hmv10.to e114.tup
          have hlt14 := e114.keep _ _ (fun z => z) hlt10
          have htv14 := htv10.to e114.tup
          have hbl14 := e114.keep _ _ (fun z => z) hbl10
          have hpv14 := hpv10.to e114.tup
          have hfv14 := hfv10.to e114.tup
          have g1 := hm1'.to e14.tup
          have g2 := hm2'.to e14.tup
          have et : rc M N (u ++ [b]) = (go M (rn M 0 u) b, go N (rn N 0 u) b) := by unfold rc; rw [rn_snoc, rn_snoc]
          have evt : ∀ {H : Hp} {σ : L2.St}, σ[9]? = some (some m1) → σ[10]? = some (some m2) → Dt H m1 (.tuple [.bool (ot M (rn M 0 u) b), .int ((go M (rn M 0 u) b : Nat) : Int)]) → Dt H m2 (.tuple [.bool (ot N (rn N 0 u) b), .int ((go N (rn N 0 u) b : Nat) : Int)]) →
              EvD f0 (tTup (tCons (tOp (rIxT K) (tVar 9) (tC (.int 1))) (tCons (tOp (rIxT K) (tVar 10) (tC (.int 1))) tNil))) σ H (eP (rc M N (u ++ [b]))) := fun k1 k2 k3 k4 => by
            rw [et]
            exact ev_tup (ea_cons (ev_ixT (ev_var k1 k3) ev_int rfl) (ea_cons (ev_ixT (ev_var k2 k4) ev_int rfl) ea_nil))
          refine s_if (f := f0) (b := !decide (rc M N (u ++ [b]) ∈ E'.map (rc M N))) (et_test (ev_notMet (evt rfl rfl g1 g2) (evv_var rfl) hme14 hmv14 (fun z => z))) (fun hb H15 e15 => ?_) fun hb H15 e15 => ?_
          · have hn : rc M N (u ++ [b]) ∉ E'.map (rc M N) := by simpa using hb
            have hnm : ∀ x ∈ E', rc M N x ≠ rc M N (u ++ [b]) := fun x hx e => hn (e ▸ List.mem_map.mpr ⟨x, hx, rfl⟩)
            have lmv : mv.length = E'.length := by rw [hmv10.length, List.length_map, List.length_map]
            have ltv : tv.length ≤ E'.length := by rw [htv10.length, List.length_map, List.length_drop]; omega
            have hme15 := e15.keep _ _ (fun z => z) hme14
            refine r_seq (s_app (f := f0) (evv_var rfl) hme15 (fun z => z) (evt rfl rfl (g1.to e15.tup) (g2.to e15.tup)) (by omega) fun w16 H16 e16 hw16 hme16 => ?_)
            have e156 := e15.trans e16
            have t17 := e156.tup.trans (tle_lst (o := .lst (mv ++ [w16])) hme16)
            have hlt17 : (upd H16 me (.lst (mv ++ [w16]))) lt = some (.lst tv) := by rw [upd_ne (Ne.symm melt)]; exact e156.keep _ _ (fun z => z) hlt14
            have hly17 : (upd H16 me (.lst (mv ++ [w16]))) ly = some (.lst lv) := by rw [upd_ne lyme]; exact e156.keep _ _ (fun z => z) hly14
            have hbl17 : (upd H16 me (.lst (mv ++ [w16]))) bl = some (.lst [.bl false, .bl true]) := by rw [upd_ne (Ne.symm bme)]; exact e156.keep _ _ (fun z => z) hbl14
            have s17 : Same H (upd H16 me (.lst (mv ++ [w16]))) := same_mut (s14.trans (le_same e156)) me0
            have hme17 : (upd H16 me (.lst (mv ++ [w16]))) me = some (.lst (mv ++ [w16])) := upd_same
            have hmv17 : DtA (upd H16 me (.lst (mv ++ [w16]))) (mv ++ [w16]) (((E' ++ [u ++ [b]]).map (rc M N)).map eP) := by
              rw [List.map_append, List.map_append]
              exact (hmv14.to t17).snoc (hw16.to (tle_lst hme16))
            generalize upd H16 me (.lst (mv ++ [w16])) = H17 at *
            have hf17 : Dt H17 fv (.tuple (u.map PyData.bool)) := hfv14.to t17
            dsimp only
            refine s_app (f := f0) (evv_var rfl) hlt17 (fun z => z) (ev_tup (ea_cons (evt rfl rfl (g1.to t17) (g2.to t17)) (ea_cons (ev_catT (ev_var rfl hf17) (ev_tup (ea_cons (ev_var rfl (.bl b)) ea_nil)) (by rw [List.length_map, List.length_singleton]; omega)) ea_nil))) (by omega) fun w18 H18 e18 hw18 hlt18 => ?_
            have hw18' : Dt H18 w18 (eWd M N (u ++ [b])) := hw18.is (by unfold eWd eW; rw [List.map_append]; rfl)
            have t19 := e18.tup.trans (tle_lst (o := .lst (tv ++ [w18])) hlt18)
            refine ⟨E' ++ [u ++ [b]], mv ++ [w16], tv ++ [w18], _, _, _, rfl, same_mut (s17.trans (le_same e18)) lt0, ?_, (hlv14.to t17).to t19, ?_, hmv17.to t19, upd_same, ?_, by rw [List.length_append]; omega, fun j x hx => at_app (pre j x hx), U10.more rfl hu10 heq hnm, ?_, (hpv14.to t17).to t19, (hfv14.to t17).to t19⟩
            · rw [upd_ne lylt]; exact e18.keep _ _ (fun z => z) hly17
            · rw [upd_ne melt]; exact e18.keep _ _ (fun z => z) hme17
            · rw [List.drop_append_of_le_length ele, List.map_append]
              exact ((htv14.to t17).to t19).snoc (hw18'.to (tle_lst hlt18))
            · rw [upd_ne (Ne.symm blt)]; exact e18.keep _ _ (fun z => z) hbl17
          · have hm : rc M N (u ++ [b]) ∈ E'.map (rc M N) := by simpa using hb
            obtain ⟨y, hy, ey⟩ := List.mem_map.mp hm
            obtain ⟨jy, hjy⟩ := List.mem_iff_getElem?.mp hy
            exact ⟨E', mv, tv, _, _, _, rfl, s14.trans (le_same e15), e15.keep _ _ (fun z => z) hly14, hlv14.to e15.tup, e15.keep _ _ (fun z => z) hme14, hmv14.to e15.tup, e15.keep _ _ (fun z => z) hlt14, htv14.to e15.tup, ele, pre, U10.seen rfl hu10 heq hjy ey, e15.keep _ _ (fun z => z) hbl14, hpv14.to e15.tup, hfv14.to e15.tup⟩
      · obtain ⟨E', mv, tv, y8, y9, y10, rfl, s10, hly10, hlv10, hme10, hmv10, hlt10, htv10, ele, pre, U10, hbl10, hpv10, hfv10⟩ := h
        refine ⟨E', mv, tv, _, _, _, _, _, rfl, s10, hly10, hlv10, hme10, hmv10, hlt10, htv10, ele, pre, ?_, fun z => by omega⟩
        have e : 2 * (a + k) + [V.bl false, V.bl true].length = 2 * (a + (k + 1)) := by show 2 * (a + k) + 2 = _; omega
        rw [← e]
        exact U10
    · obtain ⟨E', mv, tv, y6, y7, y8, y9, y10, rfl, s7, hly7, hlv7, hme7, hmv7, hlt7, htv7, ele, pre, U7, hE⟩ := h
      rw [llv] at U7
      have ea : a + (E.length - a) = E.length := by omega
      rw [ea] at U7
      refine ⟨_, rfl, ?_⟩
      refine ⟨E', E.length, lt, tv, mv, _, _, _, _, _, _, _, rfl, s7, hlt7, htv7, hme7, hmv7, U7, ele, ?_, lt0, Ne.symm melt⟩
      by_cases e : a = E.length
      · refine .inl ?_
        rw [hE (by omega)]
      · rcases aor with h | h
        · exact absurd h e
        · exact .inr (by omega)
  · obtain ⟨E, a, ly, lv, mv, x4, x5, x6, x7, x8, x9, x10, rfl, s4, hly4, hlv4, hme4, hmv4, U4, ale, aor, ly0', lyme⟩ := h
    have few := U4.few okM okN
    rw [hmn] at aor
    have ea : a = E.length := by omega
    dsimp only
    refine r_ret (q none .non H4 s4 (U4.done (by rw [ea])) (fun x hx => nomatch hx) .non)
end
end K13
/-! K13Set: sets of pairs of truth values (at most four of them, so the table is never laid anew). -/
namespace K13
open PySem PySem.Spec PyProof.Rows L2
open PpSet (boolK isB_shape)
section
variable {P : Program} {w : World} {A : Around} {E : Value → Shared → Prop} {s : Shared}
abbrev BT (P : Program) (w : World) (h : Heap) (bs : List Bool) (b : Addr) : Prop := IsTupleKey (boolK P w) h bs b
abbrev tbh (P : Program) (w : World) (bs : List Bool) : Int := tupleKeyHash (boolK P w) bs
/-- the items are truth values -/
theorem bt_items {bs : List Bool} {us : List Value} (z : ItemsAre (boolK P w) bs us) : ∀ u ∈ us, ∃ c, u = Value.bool c := by
  induction z with
  | nil => exact fun _ hu => nomatch hu
  | cons h1 _ ih =>
    intro u hu
    rcases List.mem_cons.mp hu with e | hu
    · exact ⟨_, e.trans (isB_shape h1)⟩
    · exact ih u hu
theorem cls_bl (d : Nat) (c : Bool) : ofAClassStatement d (.bool c) = pure false := by cases d <;> rfl
theorem hbv_bl (d : Nat) (c : Bool) : hashByValue d (.bool c) = pure true := by cases d <;> rfl
theorem bt_cls {bs : List Bool} {b : Addr} {Q : Bool → Shared → Prop} (z : BT P w s.heap bs b) (q : Q false s) : wpAny (model P w) A (ofAClassStatement 8 (.ref b)) Q E s := by
  have ty := z.typeIs
  obtain ⟨ob, its, cap, g1, _, g2, g3⟩ := z
  unfold ofAClassStatement
  refine wpAny_bind (wpAny_typeOf ty ?_)
  dsimp only
  have tt : (("tuple" : String) == "tuple") = true := by decide
  simp only [tt, if_true, Bool.not_true, Bool.false_eq_true, if_false]
  try refine wpAny_bind (wpAny_pure ?_)
  try simp only [Bool.not_true, Bool.false_eq_true, if_false]
  show wpAny _ _ (seqItems? (.ref b) >>= _) _ _ s
  refine wpAny_bind (wpAny_seqItems g1 g2 ?_)
  dsimp only
  refine wpAny_bind ?_
  show wpAny _ _ (forIn its _ _) _ _ s
  rw [← Array.forIn_toList]
  refine wpAny_forIn_list _ (fun left st now => st.1 = none ∧ now = s ∧ ∀ u ∈ left, ∃ c, u = Value.bool c) _ ?_ ?_ _ _ ⟨rfl, rfl, bt_items g3⟩
  · rintro u left st now ⟨e1, rfl, all⟩
    obtain ⟨c, rfl⟩ := all u List.mem_cons_self
    rw [cls_bl]
    refine wpAny_bind (wpAny_pure ?_)
    simp only [Bool.false_eq_true, if_false]
    exact wpAny_pure ⟨rfl, rfl, fun x hx => all x (List.mem_cons_of_mem _ hx)⟩
  · rintro ⟨st, _⟩ now ⟨e1, rfl, _⟩
    simp only at e1
    subst e1
    exact wpAny_pure q
theorem bt_hbv {bs : List Bool} {b : Addr} {Q : Bool → Shared → Prop} (z : BT P w s.heap bs b) (q : Q true s) : wpAny (model P w) A (hashByValue 8 (.ref b)) Q E s := by
  have ty := z.typeIs
  obtain ⟨ob, its, cap, g1, _, g2, g3⟩ := z
  unfold hashByValue
  refine wpAny_bind (wpAny_specialOf ty F.slot_tuple_hash.lookup ?_)
  show wpAny _ _ (seqItems? (.ref b) >>= _) _ _ s
  refine wpAny_bind (wpAny_seqItems g1 g2 (wpAny_bind ?_))
  show wpAny _ _ (forIn its _ _) _ _ s
  rw [← Array.forIn_toList]
  refine wpAny_forIn_list _ (fun left st now => st.1 = none ∧ now = s ∧ ∀ u ∈ left, ∃ c, u = Value.bool c) _ ?_ ?_ _ _ ⟨rfl, rfl, bt_items g3⟩
  · rintro u left st now ⟨e1, rfl, all⟩
    obtain ⟨c, rfl⟩ := all u List.mem_cons_self
    rw [hbv_bl]
    refine wpAny_bind (wpAny_pure ?_)
    simp only [Bool.not_true, Bool.false_eq_true, if_false]
    exact wpAny_pure ⟨rfl, rfl, fun x hx => all x (List.mem_cons_of_mem _ hx)⟩
  · rintro ⟨st, _⟩ now ⟨e1, rfl, _⟩
    simp only at e1
    subst e1
    exact wpAny_pure q
/-- looking among them shows nothing -/
theorem bt_seen {bs : List Bool} {b : Addr} {Q : Bool → Shared → Prop} (z : BT P w s.heap bs b) {ys : List Value} (hy : ∀ y ∈ ys, ∃ cs c, y = Value.ref c ∧ BT P w s.heap cs c) (q : Q false s) : wpAny (model P w) A (searchCouldBeSeen (.ref b) ys) Q E s := by
  unfold searchCouldBeSeen
  refine wpAny_bind ?_
  refine wpAny_forIn_list _ (fun left st now => st.1 = none ∧ now = s ∧ ∀ y ∈ left, ∃ cs c, y = Value.ref c ∧ BT P w s.heap cs c) _ ?_ ?_ _ _ ⟨rfl, rfl, hy⟩
  · rintro u left st now ⟨e1, rfl, all⟩
    obtain ⟨cs, c, rfl, zc⟩ := all u List.mem_cons_self
    have more : ∀ y ∈ left, ∃ cs c, y = Value.ref c ∧ BT P w now.heap cs c := fun x hx => all x (List.mem_cons_of_mem _ hx)
    dsimp only
    by_cases same : (b == c || (carriedByValue (.ref b) && carriedByValue (.ref c))) = true
    · exact wp_if_pos same (wpAny_pure ⟨rfl, rfl, more⟩)
    · refine wp_if_neg same (wpAny_bind (wpAny_eqIsQuiet_tuple z ?_))
      simp only [Bool.not_true, Bool.false_eq_true, if_false]
      refine wpAny_bind (wpAny_eqIsQuiet_tuple zc ?_)
      simp only [Bool.not_true, Bool.false_eq_true, if_false]
      refine wpAny_bind (bt_cls z ?_)
      simp only [Bool.false_eq_true, if_false]
      refine wpAny_bind (bt_cls zc ?_)
      simp only [Bool.false_eq_true, if_false]
      exact wpAny_pure ⟨rfl, rfl, more⟩
  · rintro ⟨st, _⟩ now ⟨e1, rfl, _⟩
    simp only at e1
    subst e1
    exact wpAny_pure q
/-! ### the set as it stands -/
def entB (P : Program) (w : World) (L : List (Addr × List Bool)) : List (Int × Value) := L.map fun q => (tbh P w q.2, Value.ref q.1)
def hsB (P : Program) (w : World) (L : List (Addr × List Bool)) : List Int := L.map fun q => tbh P w q.2
structure SB (P : Program) (w : World) (h : Heap) (a : Addr) (L : List (Addr × List Bool)) (es : Array (Int × Value)) (ep : Nat) (t : SetTable) : Prop where
  obj : ∃ o, h.get? a = some o ∧ o.ExactSet ∧ o.data = .set es ep t
  ent : es.toList = entB P w L
  tbl : TabOk t (hsB P w L)
  one : (L.map Prod.snd).Nodup
  are : ∀ q ∈ L, BT P w h q.2 q.1
  pln : t.plain = true
  led : w.params.followText "set-order" = true ∨ t.led = true
  msk : t.mask = 7
  two : ∀ q ∈ L, q.2.length = 2
theorem pairs_few {ks : List (List Bool)} (hn : ks.Nodup) (h2 : ∀ k ∈ ks, k.length = 2) : ks.length ≤ 4 := by
  refine KM.pg2 KM.bc 4 ks ?_ fun k hk => by have := KM.bc_lt k; rw [h2 k hk] at this; exact this
  induction ks with
  | nil => exact List.nodup_nil
  | cons x ks ih =>
    rw [List.map_cons, List.nodup_cons]
    rw [List.nodup_cons] at hn
    refine ⟨fun hm => ?_, ih hn.2 fun k hk => h2 k (List.mem_cons_of_mem _ hk)⟩
    obtain ⟨y, hy, e⟩ := List.mem_map.mp hm
    have := KM.bc_inj y x ((h2 y (List.mem_cons_of_mem _ hy)).trans (h2 x List.mem_cons_self).symm) e
    exact hn.1 (this ▸ hy)
variable {a : Addr} {L : List (Addr × List Bool)} {es : Array (Int × Value)} {ep : Nat} {t : SetTable}
theorem SB.few (R : SB P w s.heap a L es ep t) : L.length ≤ 4 := by
  have := pairs_few R.one fun k hk => by
    obtain ⟨q, hq, rfl⟩ := List.mem_map.mp hk
    exact R.two q hq
  rw [List.length_map] at this
  exact this
theorem SB.es_size (R : SB P w s.heap a L es ep t) : es.size = L.length := by
  have e := congrArg List.length R.ent
  unfold entB at e
  rw [List.length_map, Array.length_toList] at e
  exact e
theorem SB.pl_size (R : SB P w s.heap a L es ep t) : t.place.size = L.length := by
  have e := R.tbl.sz
  unfold hsB at e
  rw [List.length_map] at e
  exact e
theorem SB.ok (R : SB P w s.heap a L es ep t) : t.fits es.size = true := by
  have e1 := R.pl_size
  have e2 := R.es_size
  have e3 := R.few
  unfold SetTable.fits SetTable.fill
  rw [R.tbl.dm, Bool.and_eq_true, decide_eq_true_eq, beq_iff_eq]
  show t.place.size = es.size ∧ t.place.size + 0 ≤ t.mask
  rw [R.msk]
  omega
theorem SB.at (R : SB P w s.heap a L es ep t) {i : Nat} {q : Addr × List Bool} (e : L[i]? = some q) : es[i]? = some (tbh P w q.2, Value.ref q.1) := by
  rw [← Array.getElem?_toList, R.ent]
  unfold entB
  rw [List.getElem?_map, e]
  rfl
theorem SB.stands (R : SB P w s.heap a L es ep t) : ¬ t.gaveWay = true := by
  unfold SetTable.gaveWay
  rw [R.msk]
  decide
/-- the way's probe at a step -/
abbrev prb (m : Nat) (g : Int) (c : Nat) : SetTable.Probe := nth m (runAt m (SetTable.bits g % (m + 1)) (SetTable.bits g)) c
theorem prb_dummy (m : Nat) (g : Int) (c : Nat) : (prb m g c).dummy = none := by
  have go : ∀ (n : Nat) (p : SetTable.Probe), p.dummy = none → (nth m p n).dummy = none := by
    intro n
    induction n with
    | zero => exact fun _ e => e
    | succ n ih =>
      intro p e
      refine ih (L2.adv m p) ?_
      unfold L2.adv
      split <;> exact e
  exact go c _ rfl
theorem prb_add (m : Nat) (g : Int) (c d : Nat) : nth m (prb m g c) d = prb m g (c + d) := (nth_add m c _ d).symm
/-- looking for a pair from the c-th step on; K: the first free place of its way -/
theorem sb_look (R : SB P w s.heap a L es ep t) {x : Addr} {bs : List Bool} (z : BT P w s.heap bs x) (hu : A.units < cLine) {K : Nat} (kf : K < 10 * SetTable.turns t.mask) (kn : way t.mask (tbh P w bs) K ∉ t.place.toList)
    (kb : ∀ c, c < K → way t.mask (tbh P w bs) c ∈ t.place.toList) {Q : SetFound → Shared → Prop} (yes : bs ∈ L.map Prod.snd → Q (.there none) s) (no : bs ∉ L.map Prod.snd → Q (.free (way t.mask (tbh P w bs) K) false) s) :
    ∀ (f c : Nat) (from_ : Option SetTable.Probe), from_.getD (t.probeStart (tbh P w bs)) = prb t.mask (tbh P w bs) c → c ≤ K → K - c < f →
      (∀ (i : Nat) q, L[i]? = some q → q.2 = bs → ∃ d, c ≤ d ∧ d < K ∧ t.place.toList[i]? = some (way t.mask (tbh P w bs) d)) → wpAny (model P w) A (setSearchFrom a (.ref x) (tbh P w bs) true f from_) Q E s
  | 0, _, _, _, _, lt, _ => absurd lt (Nat.not_lt_zero _)
  | f + 1, c, from_, e0, cK, lt, ahead => by
    obtain ⟨o, g1, g2, g3⟩ := R.obj
    rw [setSearchFrom_succ]
    refine wpAny_bind (wpAny_setState_of g1 g3 R.ok ?_)
    dsimp only
    refine wp_if_neg R.stands ?_
    try refine wpAny_bind (wpAny_pure ?_)
    have jj : ∀ d, (nth t.mask (prb t.mask (tbh P w bs) c) d).j = way t.mask (tbh P w bs) (c + d) := fun d => congrArg SetTable.Probe.j (prb_add _ _ c d)
    have hOf : ∀ (i : Nat) q, L[i]? = some q → (fun i => (es[i]?.map (·.1)).getD 0) i = tbh P w q.2 := fun i q e => by
      show (es[i]?.map (·.1)).getD 0 = _
      rw [R.at e]
      rfl
    have cK' : c + (K - c) = K := by omega
    rcases go_spec t R.tbl.ris R.tbl.dm (fun i => (es[i]?.map (·.1)).getD 0) (tbh P w bs) (10 * SetTable.turns t.mask) (K - c) _ (prb_dummy t.mask (tbh P w bs) c) (by omega) (fun d hd => by rw [jj]; exact kb _ (by omega)) (by rw [jj, cK']; exact kn) with ⟨d, i, hd, hi, hh, hno, hp⟩ | ⟨hno, hp⟩
    · rw [jj] at hi
      rw [prb_add, prb_add] at hp
      have met : t.probe (fun i => (es[i]?.map (·.1)).getD 0) (tbh P w bs) (from_.getD (t.probeStart (tbh P w bs))) = some (.candidate (way t.mask (tbh P w bs) (c + d)) i (prb t.mask (tbh P w bs) (c + (d + 1)))) := by
        rw [e0]; exact hp
      rw [met]
      dsimp only
      have il : i < L.length := by
        have := (List.getElem?_eq_some_iff.mp hi).1
        rw [Array.length_toList, R.pl_size] at this
        exact this
      obtain ⟨q, hq⟩ : ∃ q, L[i]? = some q := ⟨L[i], by simp [il]⟩
      have qm := List.mem_of_getElem? hq
      have live : t.slot (way t.mask (tbh P w bs) (c + d)) = .live i := slot_live R.tbl.ris hi
      have on : wpAny (model P w) A (searchRest a (.ref x) (tbh P w bs) true f es t (way t.mask (tbh P w bs) (c + d)) i (prb t.mask (tbh P w bs) (c + (d + 1)))) Q E s := by
        unfold searchRest
        rw [R.at hq]
        dsimp only
        refine wpAny_bind (wpAny_holding (wpAny_eqBool_tuple hu (R.are q qm) z ?_))
        refine wpAny_bind (wpAny_setState_of g1 g3 R.ok ?_)
        dsimp only
        by_cases same : q.2 = bs
        · exact wp_if_pos (by simp [same]) (wpAny_pure (yes (List.mem_map.mpr ⟨q, qm, same⟩)))
        · refine wp_if_neg (by simp [same]) ?_
          try refine wpAny_bind (wpAny_pure ?_)
          rw [sameMem]
          dsimp only
          simp only [if_true, live, R.at hq]
          refine wpAny_bind (wpAny_isSame_ref_self (wpAny_bind (wpAny_pure ?_)))
          simp only [if_true]
          refine wp_if_neg (by simp [same]) ?_
          refine sb_look R z hu kf kn kb yes no f (c + (d + 1)) _ rfl (by omega) (by omega) fun i' q' h' e' => ?_
          obtain ⟨d', a1, a2, a3⟩ := ahead i' q' h' e'
          refine ⟨d', ?_, a2, a3⟩
          have p1 : ¬ d' < c + d := fun lt' => hno (d' - c) i' (by omega) (by rw [jj, show c + (d' - c) = d' by omega]; exact a3) ((hOf i' q' h').trans (congrArg (tbh P w) e'))
          have p2 : d' ≠ c + d := fun e2 => by
            rw [e2] at a3
            have l2 := slot_live R.tbl.ris a3
            rw [live] at l2
            injection l2 with l2
            rw [← l2, hq] at h'
            exact same ((congrArg Prod.snd (Option.some.inj h')).trans e')
          omega
      by_cases ld : t.led = true
      · refine wp_if_neg (by simp [ld]) ?_
        try refine wpAny_bind (wpAny_pure ?_)
        exact on
      · refine wp_if_pos (by simp [ld]) (wpAny_bind (bt_seen z (fun y hy => ?_) ?_))
        · obtain ⟨en, hen, rfl⟩ := List.mem_map.mp hy
          have m1 : en ∈ es ∧ en.1 = tbh P w bs := by simpa using hen
          have m2 : en ∈ es.toList := by simpa using m1.1
          rw [R.ent] at m2
          obtain ⟨q2, hq2, rfl⟩ := List.mem_map.mp m2
          exact ⟨q2.2, q2.1, rfl, R.are q2 hq2⟩
        · refine wp_if_neg (by decide) ?_
          try refine wpAny_bind (wpAny_pure ?_)
          exact on
    · rw [jj, cK'] at hp
      have met : t.probe (fun i => (es[i]?.map (·.1)).getD 0) (tbh P w bs) (from_.getD (t.probeStart (tbh P w bs))) = some (.empty (way t.mask (tbh P w bs) K) none) := by
        rw [e0]; exact hp
      rw [met]
      dsimp only
      refine wpAny_pure (no fun hm => ?_)
      obtain ⟨q, qm, e'⟩ := List.mem_map.mp hm
      obtain ⟨i', h'⟩ := List.mem_iff_getElem?.mp qm
      obtain ⟨d', a1, a2, a3⟩ := ahead i' q h' e'
      exact hno (d' - c) i' (by omega) (by rw [jj, show c + (d' - c) = d' by omega]; exact a3) ((hOf i' q h').trans (congrArg (tbh P w) e'))
/-- the look that adding makes -/
theorem sb_find (R : SB P w s.heap a L es ep t) {x : Addr} {bs : List Bool} (z : BT P w s.heap bs x) (hu : A.units < cLine) {Q : SetFound → Shared → Prop} (yes : bs ∈ L.map Prod.snd → Q (.there none) s)
    (no : ∀ K, bs ∉ L.map Prod.snd → way t.mask (tbh P w bs) K ∉ t.place.toList → (∀ c, c < K → way t.mask (tbh P w bs) c ∈ t.place.toList) → Q (.free (way t.mask (tbh P w bs) K) false) s) : wpAny (model P w) A (setSearch a (.ref x) (tbh P w bs) true) Q E s := by
  have few := R.few
  obtain ⟨K, k1, k2, k3⟩ := R.tbl.first (by unfold hsB; rw [List.length_map, R.msk]; omega) (tbh P w bs)
  have kl : K < 100000 := by
    have : 10 * SetTable.turns t.mask ≤ 1420 := by rw [R.msk]; decide
    omega
  unfold setSearch
  refine sb_look R z hu k1 k2 k3 yes (fun n => no K n k2 k3) 100000 0 none rfl (Nat.zero_le _) (by omega) fun i q hq e => ?_
  have hi : (hsB P w L)[i]? = some (tbh P w bs) := by unfold hsB; rw [List.getElem?_map, hq, ← e]; rfl
  obtain ⟨j, hj⟩ : ∃ j, t.place.toList[i]? = some j := by
    have il := (List.getElem?_eq_some_iff.mp hq).1
    exact ⟨t.place.toList[i]'(by rw [Array.length_toList, R.pl_size]; exact il), by simp⟩
  obtain ⟨d, d1, d2⟩ := R.tbl.before k2 hi hj
  exact ⟨d, Nat.zero_le _, d1, by rw [hj, d2]⟩
/-- a tuple is no set -/
theorem bt_but {h h' : Heap} {bs : List Bool} {a b : Addr} {o : Obj} {es : Array (Int × Value)} {ep : Nat} {t : SetTable} (z : BT P w h bs b) (g : h.get? a = some o) (gd : o.data = .set es ep t) (sb : Heap.SameBut a h h') : BT P w h' bs b := by
  obtain ⟨ob, its, cap, g1, g2, g3, g4⟩ := z
  refine ⟨ob, its, cap, (sb.2 b fun e => ?_).trans g1, g2, g3, g4⟩
  subst e
  rw [g] at g1
  cases g1
  rw [gd] at g3
  cases g3
theorem bt_kept {h h' : Heap} {bs : List Bool} {b : Addr} (z : BT P w h bs b) (k : ∀ c o, h.get? c = some o → h'.get? c = some o) : BT P w h' bs b := by
  obtain ⟨ob, its, cap, g1, r⟩ := z
  exact ⟨ob, its, cap, k _ _ g1, r⟩
theorem SB.kept {h h' : Heap} (R : SB P w h a L es ep t) (k : ∀ o, h.get? a = some o → h'.get? a = some o) (kt : ∀ q ∈ L, BT P w h' q.2 q.1) : SB P w h' a L es ep t := by
  obtain ⟨o, g, r⟩ := R.obj
  exact ⟨⟨o, k o g, r⟩, R.ent, R.tbl, R.one, kt, R.pln, R.led, R.msk, R.two⟩
theorem mem_cut {β : Type} (l : List β) (p : Nat) (y : β) : (l.take p ++ y :: l.drop p).Perm (y :: l) := by
  have e : (y :: l).Perm (y :: (l.take p ++ l.drop p)) := by rw [List.take_append_drop]
  exact List.perm_middle.trans e.symm
/-- a pair is added -/
theorem sb_add (R : SB P w s.heap a L es ep t) {x : Addr} {bs : List Bool} (z : BT P w s.heap bs x) (z2 : bs.length = 2) (hu : A.units < cLine) {Q : Bool → Shared → Prop}
    (q : ∀ b h' M fs fp u, Heap.SameBut a s.heap h' → SB P w h' a M fs fp u → (bs ∈ L.map Prod.snd → M = L) → (bs ∉ L.map Prod.snd → M.Perm ((x, bs) :: L)) → Q b { s with heap := h' }) : wpAny (model P w) A (setAddHashed a (.ref x) (tbh P w bs)) Q E s := by
  obtain ⟨o, g1, g2, g3⟩ := R.obj
  unfold setAddHashed
  refine wpAny_holding ?_
  rw [show (100000 : Nat) = 99999 + 1 from rfl, setAddHashedIn_succ]
  refine wpAny_bind (wpAny_setState_of g1 g3 R.ok ?_)
  dsimp only
  refine wp_if_neg (by simp [byScan, Value.scannable]) ?_
  try refine wpAny_bind (wpAny_pure ?_)
  refine wpAny_bind (sb_find R z hu (fun m => ?_) fun K m kn kb => ?_)
  · dsimp only
    exact wpAny_pure (q false s.heap L es ep t (Heap.SameBut.refl a s.heap) R (fun _ => rfl) fun n => absurd m n)
  · dsimp only
    refine wpAny_bind (wpAny_setState_of g1 g3 R.ok ?_)
    dsimp only
    obtain ⟨c1, c2, c3, c4, c5, c6, _, _, c9⟩ := R.tbl.put kn kb
    have pl : (t.put (way t.mask (tbh P w bs) K)).1.plain = true := by rw [c6]; exact R.pln
    have ld : w.params.followText "set-order" = true ∨ (t.put (way t.mask (tbh P w bs) K)).1.led = true := by rw [c5]; exact R.led
    generalize t.put (way t.mask (tbh P w bs) K) = pr at c1 c3 c4 c9 pl ld ⊢
    obtain ⟨u, p⟩ := pr
    dsimp only at c1 c3 c4 c9 pl ld ⊢
    subst c1
    first
      | (refine wpAny_bind ?_; refine wp_if_pos pl ?_; refine bt_hbv z ?_)
      | refine wp_if_pos pl (wpAny_bind (bt_hbv z ?_))
    simp only [if_true]
    generalize SetTable.below t.place (way t.mask (tbh P w bs) K) = p at c2 c3 ⊢
    have en : (SetTable.insertAt es p (tbh P w bs, Value.ref x)).toList = entB P w (L.take p ++ (x, bs) :: L.drop p) := by
      rw [SetTable.toList_insertAt, R.ent]
      unfold entB
      rw [List.map_append, List.map_cons, List.map_take, List.map_drop]
    have hh : hsB P w (L.take p ++ (x, bs) :: L.drop p) = (hsB P w L).take p ++ tbh P w bs :: (hsB P w L).drop p := by
      unfold hsB
      rw [List.map_append, List.map_cons, List.map_take, List.map_drop]
    rw [← hh] at c3
    have pm := mem_cut L p (x, bs)
    generalize L.take p ++ (x, bs) :: L.drop p = M at en c3 pm ⊢
    have ml : M.length = L.length + 1 := pm.length_eq
    have n1 : (M.map Prod.snd).Nodup := by
      refine (pm.map Prod.snd).nodup_iff.mpr ?_
      rw [List.map_cons, List.nodup_cons]
      exact ⟨m, R.one⟩
    have m2 : ∀ q ∈ M, q.2.length = 2 := fun q hq => by
      rcases List.mem_cons.mp (pm.mem_iff.mp hq) with e | hq
      · rw [e]; exact z2
      · exact R.two q hq
    have m4 : M.length ≤ 4 := by
      have := pairs_few n1 fun k hk => by
        obtain ⟨q, hq, rfl⟩ := List.mem_map.mp hk
        exact m2 q hq
      rw [List.length_map] at this
      exact this
    generalize hfs : SetTable.insertAt es p (tbh P w bs, Value.ref x) = fs at en ⊢
    have fl : fs.size = M.length := by
      have e := congrArg List.length en
      unfold entB at e
      rw [List.length_map, Array.length_toList] at e
      exact e
    refine wpAny_bind (wpAny_storeSet_of g1 g3 ?_ (by rw [fl, sizeLine_eq]; omega))
    have sb : Heap.SameBut a s.heap (s.heap.update a (Obj.putSet fs u)) := Heap.SameBut.update ..
    have at_ := store_at (es' := fs) (t' := u) g1 g3
    generalize s.heap.update a (Obj.putSet fs u) = h1 at sb at_ ⊢
    have nf : ¬ u.tooFull = true := by
      intro h
      unfold SetTable.tooFull at h
      rw [decide_eq_true_eq, c9, c4, R.msk] at h
      have : (hsB P w L).length = L.length := by unfold hsB; rw [List.length_map]
      omega
    first
      | refine wp_if_neg (by simp [nf]) ?_
      | (refine wpAny_bind ?_; refine wp_if_neg (by simp [nf]) ?_; refine wpAny_pure ?_)
    refine wpAny_pure (q true h1 M fs (ep + 1) u sb ⟨⟨_, at_, ⟨g2.1, g2.2.1, g2.2.2⟩, rfl⟩, en, c3, n1, fun q hq => ?_, pl, ld, by rw [c4]; exact R.msk, m2⟩ (fun h => absurd h m) fun _ => pm)
    rcases List.mem_cons.mp (pm.mem_iff.mp hq) with e | hq
    · rw [e]; exact bt_but z g1 g3 sb
    · exact bt_but (R.are q hq) g1 g3 sb
theorem sb_new {h : Heap} {a : Addr} (g : h.get? a = some { cls := .type "set", dict := none, data := .set #[] 0 (.fresh 0 0 (!w.params.followText "set-order")) }) : SB P w h a [] #[] 0 (.fresh 0 0 (!w.params.followText "set-order")) where
  obj := ⟨_, g, ⟨rfl, rfl, rfl⟩, rfl⟩
  ent := rfl
  tbl := ⟨List.Pairwise.nil, rfl, rfl, .inl rfl, (fun _ hx => nomatch hx), (fun _ _ _ hi => nomatch hi)⟩
  one := List.nodup_nil
  are := fun _ hq => nomatch hq
  pln := rfl
  led := by
    show _ ∨ (!w.params.followText "set-order") = true
    cases w.params.followText "set-order" <;> simp
  msk := rfl
  two := fun _ hq => nomatch hq
/-- what has been met of ks at turn i -/
structure Met (ks : List (Addr × List Bool)) (i : Nat) (L : List (Addr × List Bool)) : Prop where
  sub : ∀ q ∈ L, q ∈ ks
  all : ∀ (j : Nat) q, j < i → ks[j]? = some q → q.2 ∈ L.map Prod.snd
theorem Met.next {ks L M : List (Addr × List Bool)} {i : Nat} {x : Addr × List Bool} (m : Met ks i L) (hx : ks[i]? = some x) (old : x.2 ∈ L.map Prod.snd → M = L) (new : x.2 ∉ L.map Prod.snd → M.Perm (x :: L)) : Met ks (i + 1) M := by
  by_cases h : x.2 ∈ L.map Prod.snd
  · rw [old h]
    refine ⟨m.sub, fun j q hj e => ?_⟩
    by_cases ji : j = i
    · rw [ji, hx] at e
      cases e
      exact h
    · exact m.all j q (by omega) e
  · have pm := new h
    refine ⟨fun q hq => ?_, fun j q hj e => ?_⟩
    · rcases List.mem_cons.mp (pm.mem_iff.mp hq) with e | hq
      · rw [e]; exact List.mem_of_getElem? hx
      · exact m.sub q hq
    · refine (pm.map Prod.snd).mem_iff.mpr ?_
      rw [List.map_cons]
      by_cases ji : j = i
      · rw [ji, hx] at e
        cases e
        exact List.mem_cons_self
      · exact List.mem_cons_of_mem _ (m.all j q (by omega) e)
abbrev nSet (w : World) : Obj := { cls := .type "set", dict := none, data := .set #[] 0 (.fresh 0 0 (!w.params.followText "set-order")) }
def Old (g h : Heap) : Prop := ∀ b o, g.get? b = some o → h.get? b = some o
/-- the turns of the update -/
theorem sb_turns {I : Addr} {fp wr : List Addr} {G : Array GenState → Array GenState → Prop} {n : Nat} {Pv : Nat → Value → Prop} {St : Nat → Shared → Prop} {R : Result → Shared → Prop} (W : WalksS P w A.in1 I fp wr G n Pv St) (S : Addr) (sf : S ∉ fp) (ks : List (Addr × List Bool)) (en : n = ks.length)
    (val : ∀ i v, Pv i v → ∃ q, ks[i]? = some q ∧ v = .ref q.1) (g : Heap) (kt : ∀ q ∈ ks, BT P w g q.2 q.1 ∧ q.2.length = 2) (gS : g.get? S = none) (gw : ∀ b ∈ wr, g.get? b = none) (hu : A.in1.units < cLine) :
    ∀ (m i : Nat) (s : Shared), n - i = m → i ≤ n → St i s → Old g s.heap → (∃ L es ep t, SB P w s.heap S L es ep t ∧ Met ks i L) →
      (∀ s' L es ep t, Moved (S :: wr) G s s' → SB P w s'.heap S L es ep t → Met ks n L → Old g s'.heap → R (.ok (.ret .none)) s') → codeAny (model P w) A (.builtin "set.update.loop" ⟨[.ref S, .ref I], []⟩) R s := by
  have sw : S ∉ wr := fun z => sf (W.sub _ z)
  have up : ∀ b ∈ wr, b ∈ S :: wr := fun b z => List.mem_cons_of_mem _ z
  have old : ∀ {s s' : Shared}, Moved wr G s s' → Old g s.heap → Old g s'.heap := fun mv k b o e => mv.heap b o (fun z => by rw [gw b z] at e; cases e) (k b o e)
  intro m
  induction m with
  | zero =>
    rintro i s em le st k ⟨L, es, ep, t, B, M⟩ fin
    obtain rfl : i = n := by omega
    refine codeAny_builtin F.entry_set_update_loop ?_
    rw [Around.under_plainId F.plain_set_update_loop _]
    show wpAny _ A.in1 (pyNext (.ref I) >>= _) _ _ s
    refine wpAny_bind (W.done s _ _ st fun s' mv => ?_)
    show wpAny _ A.in1 (ret Value.none) _ _ s'
    have k' := old mv k
    exact wpAny_pure (fin s' L es ep t (mv.mono up) (B.kept (fun o e => mv.heap S o sw e) fun q hq => bt_kept (kt q (M.sub q hq)).1 k') M k')
  | succ m ih =>
    rintro i s em le st k ⟨L, es, ep, t, B, M⟩ fin
    have lt : i < n := by omega
    refine codeAny_builtin F.entry_set_update_loop ?_
    rw [Around.under_plainId F.plain_set_update_loop _]
    show wpAny _ A.in1 (pyNext (.ref I) >>= _) _ _ s
    refine wpAny_bind (W.item i s _ _ lt st fun v s' pv st' mv => ?_)
    obtain ⟨x, hx, rfl⟩ := val i v pv
    have k' := old mv k
    obtain ⟨zx, zx2⟩ := kt x (List.mem_of_getElem? hx)
    have B' : SB P w s'.heap S L es ep t := B.kept (fun o e => mv.heap S o sw e) fun q hq => bt_kept (kt q (M.sub q hq)).1 k'
    have zx' := bt_kept zx k'
    show wpAny _ A.in1 (holding [Value.ref x.1] (setAdd S (.ref x.1)) >>= _) _ _ s'
    refine wpAny_bind (wpAny_holding ?_)
    unfold setAdd
    refine wpAny_holding (wpAny_bind (wpAny_pyHash_tuple hu zx' ?_))
    refine sb_add (s := { s' with toks := s'.toks + (x.2.length + 1) }) B' zx' zx2 hu fun b h' M' es' ep' t' sb B2 c1 c2 => ?_
    have k2 : Old g h' := fun b o e => (sb.2 b (fun z => by rw [z, gS] at e; cases e)).trans (k' b o e)
    refine wpAny_pure ⟨plainId_quiet F.plain_set_update_loop _, ih (i + 1) _ (by omega) lt (W.frame _ s' _ _ st' (Nat.le_add_right _ _) fun b hb o e => ?_) k2 ⟨M', es', ep', t', B2, M.next hx c1 c2⟩ fun s'' L2 es2 ep2 t2 mv2 B3 M3 k3 => ?_⟩
    · rw [sb.2 b (fun z : b = S => sf (by rw [← z]; exact hb))]; exact e
    · refine fin s'' L2 es2 ep2 t2 (Moved.trans W.gtrans ((mv.mono up).then_heap (Nat.le_add_right _ _) fun b o hb e => ?_) mv2) B3 M3 k3
      rw [sb.2 b (fun z : b = S => hb (by rw [z]; exact List.mem_cons_self))]; exact e
/-- set(l), l a list of pairs of truth values -/
theorem sb_call {l : Addr} {items : Array Value} (ks : List (Addr × List Bool)) {Q : Value → Shared → Prop} (hh : A.handled = none) (hl : s.heap.IsList l items) (hit : items.toList = ks.map fun q => Value.ref q.1) (kt : ∀ q ∈ ks, BT P w s.heap q.2 q.1 ∧ q.2.length = 2) (hu : A.units + 3 < cLine)
    (q : ∀ (h' : Heap) (tk : Nat) L es ep t, SB P w h' s.heap.objs.size L es ep t → Met ks ks.length L → Old s.heap h' → Q (.ref s.heap.objs.size) { s with heap := h', toks := tk }) : wpAny (model P w) A (call (.type "set") [.ref l]) Q E s := by
  have isz : items.size = ks.length := by
    have e := congrArg List.length hit
    rw [List.length_map, Array.length_toList] at e
    exact e
  obtain ⟨cm, tm, hmro⟩ := F.called_set.mro
  have hmade := F.called_set.made
  have hsub := F.called_set.sub
  refine wpAny_call (codeAny_of_tree ?_)
  show wpAny _ _ (callAny (.type "set") _) _ _ _
  refine wpAny_pure ⟨Code.quiet_builtin _ (by decide +kernel), codeAny_builtin F.entry_type_call ?_⟩
  rw [Around.under_plain (weight_type_call_type "set" [.ref l] []) rfl]
  have z1 := F.called_set.notType
  have z2 := F.called_set.canCreate
  have z3 := F.typeCall_set_1 (.ref l)
  repeat (any_goals (first | assumption | wp_step))
  refine codeAny_mono (code_set_led1 (.ref l) (E := E) (Q₁ := fun v now => v = .ref s.heap.objs.size ∧ now = { s with heap := s.heap.push (nSet w) }) ⟨rfl, rfl⟩) fun r now hr => ?_
  cases r with
  | error e => exact hr
  | ok fl =>
    cases fl with
    | next => exact hr.elim
    | brk => exact hr.elim
    | cont => exact hr.elim
    | ret v =>
      obtain ⟨rfl, rfl⟩ := hr
      have gS : (s.heap.push (nSet w)).get? s.heap.objs.size = some (nSet w) := Heap.get?_push_size _ rfl
      have tS : Shared.TypeIs { s with heap := s.heap.push (nSet w) } (.ref s.heap.objs.size) "set" := ⟨_, gS, rfl⟩
      have z4 := F.called_set.init.lookup
      have z5 := F.called_set.init.bind (.ref s.heap.objs.size)
      repeat (any_goals (first | assumption | wp_step))
      refine codeAny_mono (codeAny_call_builtin (R := wants (fun r now => r = .none ∧ ∃ h' tk L es ep t, now = { s with heap := h', toks := tk } ∧ SB P w h' s.heap.objs.size L es ep t ∧ Met ks ks.length L ∧ Old s.heap h') E) F.called_set.init.plain F.entry_set_init (check_set_init_1 tS ?_)) fun r2 now hr2 => ?_
      · obtain ⟨⟨oc, od, odt, osl⟩, go, gc, gn, gd⟩ := hl
        simp only at gc gd
        subst gc gd
        have go' : (s.heap.push (nSet w)).get? l = some { cls := .type "list", dict := od, data := .seq items gn, slots := osl } := Heap.get?_push_of_some _ go
        have z6 := F.sub_list_set
        have z7 := F.sub_list_frozenset
        have z8 : (Value.type "list" == Value.type "dict") = false := by decide
        have hl1 : (s.heap.push (nSet w)).IsList l items := ⟨_, go', rfl, gn, rfl⟩
        unfold Builtin.«set.__init__» noKeywords Builtin.Frozenset.updateFrom
        generalize hPI : pyIter = PI
        wp_walk
        subst hPI
        refine wpAny_pyIter_list hl1 (wpAny_bind (wpAny_runValue ?_))
        have lS : l < s.heap.objs.size := Heap.lt_size go
        have hh3 : A.in1.in1.in1.handled = none := by simp [hh]
        have pz : (s.heap.push (nSet w)).objs.size = s.heap.objs.size + 1 := Heap.size_push ..
        have lne : l ≠ (s.heap.push (nSet w)).objs.size := by rw [pz]; exact Nat.ne_of_lt (Nat.lt_succ_of_lt lS)
        have sf : s.heap.objs.size ∉ [(s.heap.push (nSet w)).objs.size, l] := by
          rw [pz]
          intro z
          rcases List.mem_cons.mp z with z | z
          · exact Nat.ne_of_lt (Nat.lt_succ_self _) z
          · exact Nat.ne_of_gt lS (List.mem_singleton.mp z)
        have val : ∀ (i : Nat) (v : Value), items[i]? = some v → ∃ q, ks[i]? = some q ∧ v = .ref q.1 := fun i v e => by
          have e2 : items.toList[i]? = some v := by rw [Array.getElem?_toList]; exact e
          rw [hit, List.getElem?_map] at e2
          obtain ⟨q, hq, e3⟩ := Option.map_eq_some_iff.mp e2
          exact ⟨q, hq, e3.symm⟩
        have beyond : ∀ b, s.heap.objs.size ≤ b → s.heap.get? b = none := fun b hb => by
          cases e : s.heap.get? b with
          | none => rfl
          | some o => exact absurd (Heap.lt_size e) (Nat.not_lt.mpr hb)
        refine sb_turns ((Walks.list hh3 _ l lne items).toS) s.heap.objs.size sf ks isz val s.heap kt (beyond _ (Nat.le_refl _)) (fun b hb => beyond b (by rw [List.mem_singleton.mp hb, pz]; exact Nat.le_succ _)) hu (items.size - 0) 0 _ (by omega) (Nat.zero_le _)
          ⟨⟨_, Heap.get?_push_size _ rfl, rfl, rfl⟩, hl1.push _⟩ (fun b o e => Heap.get?_push_of_some _ (Heap.get?_push_of_some _ e)) ?first ?last
        case first =>
          have g2 : ((s.heap.push (nSet w)).push { cls := .type "list_iterator", data := .fields #[.ref l, .int 0 0] }).get? s.heap.objs.size = some (nSet w) := Heap.get?_push_of_some _ gS
          exact ⟨[], #[], 0, _, sb_new g2, ⟨(fun _ z => nomatch z), fun _ _ z => absurd z (Nat.not_lt_zero _)⟩⟩
        case last =>
          intro now L es ep t mv B M k
          obtain ⟨h', gg, dd, tt, oo⟩ := now
          have e1 : gg = s.gens := mv.gens
          have e2 : dd = s.drawn := mv.drawn
          have e3 : oo = s.os := mv.os
          subst e1 e2 e3
          show wpAny _ _ _ _ _ _
          refine wpAny_pure ?_
          show wpAny _ _ (ret Value.none) _ _ _
          rw [isz] at M
          exact wpAny_pure ⟨rfl, h', tt, L, es, ep, t, rfl, B, M, k⟩
      · cases r2 with
        | error e => exact hr2
        | ok fl2 =>
          cases fl2 with
          | next => exact hr2.elim
          | brk => exact hr2.elim
          | cont => exact hr2.elim
          | ret v2 =>
            obtain ⟨rfl, h', tk, L, es, ep, t, rfl, B, M, k⟩ := hr2
            repeat (any_goals (first | assumption | wp_step))
            exact q _ _ _ _ _ _ B M k
/-! ### sorted -/
theorem perm_pre {β γ : Type} (f : β → γ) {vs ws : List γ} (p : vs.Perm ws) : ∀ L : List β, ws = L.map f → ∃ M : List β, M.Perm L ∧ vs = M.map f := by
  induction p with
  | nil => exact fun L e => ⟨L, List.Perm.refl _, e⟩
  | cons x _ ih =>
    intro L e
    cases L with
    | nil => cases e
    | cons q L =>
      rw [List.map_cons] at e
      injection e with e1 e2
      obtain ⟨M, h1, h2⟩ := ih L e2
      exact ⟨q :: M, h1.cons q, by rw [List.map_cons, e1, h2]⟩
  | swap x y l =>
    intro L e
    match L, e with
    | q :: r :: L, e =>
      simp only [List.map_cons, List.cons.injEq] at e
      exact ⟨r :: q :: L, List.Perm.swap q r L, by rw [List.map_cons, List.map_cons, e.1, e.2.1, e.2.2]⟩
  | trans _ _ i1 i2 =>
    intro L e
    obtain ⟨M, h1, h2⟩ := i2 L e
    obtain ⟨N, h3, h4⟩ := i1 M h2
    exact ⟨N, h3.trans h1, h4⟩
def eB (q : Addr × List Bool) : PyData := .tuple (q.2.map PyData.bool)
theorem bt_reads {h : Heap} {bs : List Bool} {b : Addr} (z : BT P w h bs b) : Reads h (.ref b) (.tuple (bs.map PyData.bool)) [] := by
  obtain ⟨ob, its, cap, g1, g2, g3, g4⟩ := z
  refine .tuple g1 g2 g3 ?_
  generalize its.toList = us at g4
  clear g3
  induction g4 with
  | nil => exact .nil
  | cons k _ ih =>
    rw [isB_shape k, List.map_cons]
    exact .cons (as := []) (bs := []) (.bool _) ih
theorem each_refs {out : List Value} {M : List (Addr × List Bool)} (h : PySem.W.EachIs (fun v q => v = Value.ref q.1) out M) : out = M.map fun q => Value.ref q.1 := by
  induction h with
  | nil => rfl
  | cons e _ ih => rw [e, ih]; rfl
theorem refs_each {R : Value → (Addr × List Bool) → Prop} : ∀ M : List (Addr × List Bool), (∀ q ∈ M, R (.ref q.1) q) → PySem.W.EachIs R (M.map fun q => Value.ref q.1) M
  | [], _ => .nil
  | q :: M, h => .cons (h q List.mem_cons_self) (refs_each M fun x hx => h x (List.mem_cons_of_mem _ hx))
theorem sb_sorted (R : SB P w s.heap a L es ep t) {Q : Value → Shared → Prop} (hh : A.handled = none) (hu : A.units + 64 < cLine)
    (q : ∀ s' p (out : Array Value) (c : Nat) (M : List (Addr × List Bool)), Old s.heap s'.heap → s'.gens = s.gens → s'.os = s.os → s.heap.objs.size ≤ p → s'.heap.get? p = some (seqObj "list" out c) → out.toList = M.map (fun x => Value.ref x.1) → M.Perm L → Q (.ref p) s') :
    wpAny (model P w) A (call (.builtin "sorted") [.ref a]) Q E s := by
  obtain ⟨o, g1, g2, g3⟩ := R.obj
  have few := R.few
  have esz := R.es_size
  refine Calls.call_function_entry kind_sorted plain_sorted entry_sorted (args_sorted1 _) ?_
  unfold Builtin.«sorted»
  refine wpAny_bind (m := checkCount "sorted" 1 1 _) (wpAny_pure ?_)
  refine wpAny_bind (collect_set (A := A.in1) hh ⟨o, g1, g2.1, g3⟩ R.ok (by unfold scanBound; omega) R.tbl.ris R.led fun s1 vs k1 hz e1 o1 pm => ?_)
  have em : es.toList.map (·.2) = L.map fun q => Value.ref q.1 := by
    rw [R.ent]
    unfold entB
    rw [List.map_map]
    rfl
  rw [em] at pm
  obtain ⟨N, pN, rfl⟩ := perm_pre (fun x : Addr × List Bool => Value.ref x.1) pm L rfl
  have nl : N.length ≤ 4 := by rw [pN.length_eq]; exact few
  refine wpAny_bind (wpAny_newList ?_ (by rw [List.length_map, sizeLine_eq]; omega))
  have gl : (s1.heap.push (seqObj "list" (N.map fun x => Value.ref x.1).toArray 0)).get? s1.heap.objs.size = some (seqObj "list" (N.map fun x => Value.ref x.1).toArray 0) := Heap.get?_push_size _ rfl
  have two : ∀ x ∈ N, ∃ c d, x.2 = [c, d] := fun x hx => by
    have := R.two x (pN.mem_iff.mp hx)
    match x.2, this with
    | [c, d], _ => exact ⟨c, d, rfl⟩
  refine wpAny_bind (wpAny_holding (PySem.W.list_sort_data (s := { s1 with heap := s1.heap.push (seqObj "list" (N.map fun x => Value.ref x.1).toArray 0) }) (enc := eB) (bs := N) (R := fun v x => v = Value.ref x.1) gl (refs_each N fun _ _ => rfl) (refs_each N fun x hx => ⟨[], ?_, fun z => nomatch z⟩) ?_ ?_ (by rw [sizeLine_eq]; omega) (fun x hx => ?_) fun out ol eo => ?_))
  · exact bt_reads (bt_kept (R.are x (pN.mem_iff.mp hx)) fun b o e => Heap.get?_push_of_some _ (k1 b o e))
  · intro d hd d' hd'
    obtain ⟨x, hx, rfl⟩ := List.mem_map.mp hd
    obtain ⟨y, hy, rfl⟩ := List.mem_map.mp hd'
    obtain ⟨c, e, ex⟩ := two x hx
    obtain ⟨c', e', ey⟩ := two y hy
    unfold eB
    rw [ex, ey]
    rfl
  · refine .inl fun d hd => ?_
    obtain ⟨x, hx, rfl⟩ := List.mem_map.mp hd
    obtain ⟨c, e, ex⟩ := two x hx
    exact ⟨.bool c, [.bool e], by unfold eB; rw [ex]; rfl⟩
  · obtain ⟨c, e, ex⟩ := two x hx
    have dp : (eB x).depth ≤ 4 := by
      unfold eB
      rw [ex]
      simp [PyData.depth, PyData.depthAll]
    have : A.in1.units ≤ A.units + 1 := Nat.le_refl _
    omega
  · obtain ⟨c, gc⟩ := sortedHeap_at (vs := N.map fun x => Value.ref x.1) (out := out.toArray) gl
    refine wpAny_pure ⟨_, rfl, q _ s1.heap.objs.size out.toArray c (N.mergeSort (PySem.W.dataLe false eB)) (fun b u e => ?_) e1 o1 hz gc (by rw [List.toList_toArray]; exact each_refs eo) ((List.mergeSort_perm _ _).trans pN)⟩
    have e2 := k1 b u e
    have lt := Heap.lt_size e2
    show (sortedHeap (s1.heap.push (seqObj "list" (N.map fun x => Value.ref x.1).toArray 0)) s1.heap.objs.size _ out.toArray).get? b = some u
    rw [sortedHeap_old (Nat.ne_of_lt lt) (by rw [size_push']; exact Nat.lt_succ_of_lt lt)]
    exact Heap.get?_push_of_some _ e2
end
end K13
/-! K13Set2: sets of pairs and of rows as rules. -/
namespace K13
open PySem PySem.Spec PyProof.Rows L2
open PpSet (boolK isB_shape boolK_is)
/-- the set at a, the pairs themselves apart -/
def SB0 (P : Program) (w : World) (a : Addr) (L : List (Addr × List Bool)) (h : Heap) : Prop :=
  ∃ (es : Array (Int × Value)) (ep : Nat) (t : SetTable), (∃ o, h.get? a = some o ∧ o.ExactSet ∧ o.data = .set es ep t) ∧ es.toList = entB P w L ∧ TabOk t (hsB P w L) ∧ (L.map Prod.snd).Nodup ∧ t.plain = true ∧ (w.params.followText "set-order" = true ∨ t.led = true) ∧ t.mask = 7 ∧ ∀ q ∈ L, q.2.length = 2
def SetBO (P : Program) (w : World) (a : Addr) (L : List (Addr × List Bool)) : HO := .ext (SB0 P w a L)
theorem SB.zero {P : Program} {w : World} {h : Heap} {a : Addr} {L : List (Addr × List Bool)} {es : Array (Int × Value)} {ep : Nat} {t : SetTable} (B : SB P w h a L es ep t) : SB0 P w a L h := ⟨es, ep, t, B.obj, B.ent, B.tbl, B.one, B.pln, B.led, B.msk, B.two⟩
theorem setBO_ok {P : Program} {w : World} {H : Hp} {h : Heap} {a : Addr} {L : List (Addr × List Bool)} (B : SB0 P w a L h) : ObjOk P w H h a (SetBO P w a L) := by
  obtain ⟨es, ep, t, ⟨o, g, r⟩, r2⟩ := id B
  refine ⟨B, ⟨o, g⟩, fun h1 h2 z k => ?_⟩
  obtain ⟨es', ep', t', ⟨o', g', r'⟩, r2'⟩ := z
  exact ⟨es', ep', t', ⟨o', k o' g', r'⟩, r2'⟩
section
variable {X : Cx} {pins : List (Addr × Obj)} {σ : L2.St} {H : Hp} {s : Shared}
theorem bls_items {P : Program} {w : World} : ∀ bs : List Bool, ItemsAre (boolK P w) bs (bs.map Value.bool)
  | [] => .nil
  | b :: bs => .cons (boolK_is P w b) (bls_items bs)
theorem inv_bt {b : Addr} {bs : List Bool} (I : Inv X pins σ H s) (h : SqT X.K H b (bs.map V.bl)) : BT X.prog X.w s.heap bs b := by
  obtain ⟨us, r, ⟨o, g1, g2, cap, g3⟩, _⟩ := I.tuple h
  refine ⟨o, us.toArray, cap, g1, g2, g3, ?_⟩
  rw [List.toList_toArray, Vals.bls r]
  exact bls_items bs
theorem bref_vals : ∀ {ks : List (Addr × List Bool)} {us : List Value}, Vals (ks.map fun q => V.ref q.1) us → us = ks.map fun q => Value.ref q.1
  | [], _, .nil => rfl
  | q :: ks, _, .cons r t => by
    cases r
    rw [bref_vals t]
    rfl
theorem vals_bref : ∀ ks : List (Addr × List Bool), Vals (ks.map fun q => V.ref q.1) (ks.map fun q => Value.ref q.1)
  | [] => .nil
  | _ :: ks => .cons rfl (vals_bref ks)
end
def rSetB (K : PySem.W.Frag) (P : Program) (w : World) : List V → Hp → VK → Prop := fun xs H Q => ∃ (l : Addr) (ks : List (Addr × List Bool)), xs = [V.ref l] ∧ SqL K H l (ks.map fun q => V.ref q.1) ∧ (∀ q ∈ ks, SqT K H q.1 (q.2.map V.bl) ∧ q.2.length = 2) ∧
  ∀ a L, H a = none → (∀ q ∈ L, q ∈ ks) → (∀ q ∈ ks, q.2 ∈ L.map Prod.snd) → Q (.ref a) (upd H a (SetBO P w a L))
def rSortB (K : PySem.W.Frag) (P : Program) (w : World) : List V → Hp → VK → Prop := fun xs H Q => ∃ (a : Addr) (L : List (Addr × List Bool)), xs = [V.ref a] ∧ H a = some (SetBO P w a L) ∧ (∀ q ∈ L, SqT K H q.1 (q.2.map V.bl)) ∧
  ∀ (M : List (Addr × List Bool)) p, M.Perm L → (M.map Prod.snd).Nodup → H p = none → Q (.ref p) (upd H p (.lst (M.map fun q => V.ref q.1)))
section
variable {X : Cx}
theorem cr_setB (hc : X.calm = true) (hu : X.A.units + 64 < cLine) : CallR X (.type "set") (rSetB X.K X.prog X.w) := by
  intro pins s σ H xs us Q I r h
  obtain ⟨l, ks, rfl, hl, kt, q⟩ := h
  rw [Vals.ref1 r]
  obtain ⟨its, rv, pl, hz⟩ := I.list hl
  refine sb_call (P := X.prog) (w := X.w) ks (I.ok.hd hc) pl.isList (by simpa using bref_vals rv) (fun x hx => ⟨inv_bt I (kt x hx).1, (kt x hx).2⟩) (by omega) fun h' tk L es ep t B M k => ?_
  refine ⟨.ref s.heap.objs.size, upd H s.heap.objs.size (SetBO X.prog X.w s.heap.objs.size L), I.laid (t' := tk) k (Nat.le_refl _) (setBO_ok B.zero), rfl, q _ L (I.hok.fresh (Nat.le_refl _)) M.sub fun x hx => ?_⟩
  obtain ⟨j, hj⟩ := List.mem_iff_getElem?.mp hx
  exact M.all j x (List.getElem?_eq_some_iff.mp hj).1 hj
theorem cr_sortB (hc : X.calm = true) (hu : X.A.units + 64 < cLine) : CallR X (.builtin "sorted") (rSortB X.K X.prog X.w) := by
  intro pins s σ H xs us Q I r h
  obtain ⟨a, L, rfl, ha, kt, q⟩ := h
  obtain ⟨es, ep, t, g, e1, e2, e3, e4, e5, e6, e7⟩ : SB0 X.prog X.w a L s.heap := (I.hok a _ ha).1
  have B : SB X.prog X.w s.heap a L es ep t := ⟨g, e1, e2, e3, fun x hx => inv_bt I (kt x hx), e4, e5, e6, e7⟩
  have few := B.few
  rw [Vals.ref1 r]
  refine sb_sorted B (I.ok.hd hc) hu fun s' p out c M k eg eo hp hg hout pm => ?_
  have hn : H p = none := I.hok.fresh hp
  have ml : (M.map fun q => V.ref q.1).length ≤ sizeLine := by rw [List.length_map, pm.length_eq, sizeLine_eq]; omega
  have hv : Vals (M.map fun q => V.ref q.1) out.toList := by rw [hout]; exact vals_bref M
  have J : Inv X pins σ (upd H p (.lst (M.map fun q => V.ref q.1))) { s with heap := s'.heap, gens := s'.gens, drawn := s'.drawn, toks := s'.toks } :=
    I.call (ch := []) (Un.laid k hp hn) (I.hok.laid k hp ⟨ml, out.toList, c, hv, hg⟩) (by rw [eg]; exact I.bare) fun _ z => nomatch z
  have es' : s' = { s with heap := s'.heap, gens := s'.gens, drawn := s'.drawn, toks := s'.toks } := by
    obtain ⟨_, _, _, _, _⟩ := s'
    obtain ⟨_, _, _, _, _⟩ := s
    cases eo
    rfl
  rw [es']
  exact ⟨.ref p, _, J, rfl, q M p pm ((pm.map Prod.snd).nodup_iff.mpr B.one) hn⟩
def rSetA (K : PySem.W.Frag) (P : Program) (w : World) : List V → Hp → VK → Prop := fun xs H Q => rSetB K P w xs H Q ∨ rSetOfT K P w xs H Q
def rSortA (K : PySem.W.Frag) (P : Program) (w : World) : List V → Hp → VK → Prop := fun xs H Q => rSortB K P w xs H Q ∨ rSortedT K P w xs H Q
def rLenT (P : Program) (w : World) : List V → Hp → VK → Prop := fun xs H Q => ∃ (a : Addr) (L : List (Addr × List Int)), xs = [V.ref a] ∧ H a = some (SetTO P w a L) ∧ ((L.map (·.2)).Nodup → Q (.int (L.length : Int)) H)
theorem cl_set (K : PySem.W.Frag) (P : Program) (w : World) (hK : X.K = K) (hP : X.prog = P) (hw : X.w = w) (hc : X.calm = true) (hu : X.A.units + 64 < cLine) : CallR X (.type "set") (rSetA K P w) := by
  subst hK hP hw
  intro pins s σ H xs us Q I r h
  rcases h with h | h
  · exact cr_setB hc hu pins s σ H xs us Q I r h
  · exact cr_setOfT hc hu pins s σ H xs us Q I r h
theorem cl_sorted (K : PySem.W.Frag) (P : Program) (w : World) (hK : X.K = K) (hP : X.prog = P) (hw : X.w = w) (hc : X.calm = true) (hu : X.A.units + 64 < cLine) : CallR X (.builtin "sorted") (rSortA K P w) := by
  subst hK hP hw
  intro pins s σ H xs us Q I r h
  rcases h with h | h
  · exact cr_sortB hc hu pins s σ H xs us Q I r h
  · exact cr_sortedT hc pins s σ H xs us Q I r h
theorem cl_lenT (P : Program) (w : World) (hP : X.prog = P) (hw : X.w = w) : CallR X (.builtin "len") (rLenT P w) := by
  subst hP hw
  intro pins s σ H xs us Q I r h
  obtain ⟨a, L, rfl, ha, q⟩ := h
  obtain ⟨es, ep, t, ⟨o, g, ex, gd⟩, e1, e2, nd, _, _, e6, e7⟩ := SetT0.ex (show SetT0 X.prog X.w s.heap a L from (I.hok a _ ha).1)
  rw [Vals.ref1 r]
  have esz : es.size = L.length := by
    have e := congrArg List.length e1
    unfold rowsOf at e
    rw [List.length_map, Array.length_toList] at e
    exact e
  have psz : t.place.size = L.length := by
    have e := e2.sz
    rw [List.length_map] at e
    exact e
  have fit : t.fits es.size = true := by
    unfold SetTable.fits SetTable.fill
    rw [e2.dm, Bool.and_eq_true, decide_eq_true_eq, beq_iff_eq]
    show t.place.size = es.size ∧ t.place.size + 0 ≤ t.mask
    omega
  exact call_len_set g ex gd fit (by rw [esz]; omega) ⟨.int (L.length : Int), H, I.tok _, ⟨_, by rw [esz]⟩, q nd⟩
end
end K13
/-! K13T: the law's own kinds. -/
namespace K13
open PySem PySem.Spec PyProof.Rows L2 KM
def fB (bs : List Bool) : PyData := .tuple (bs.map PyData.bool)
def fI (ns : List Int) : PyData := .tuple (ns.map PyData.int)
theorem fB_inj {a b : List Bool} (h : fB a = fB b) : a = b := by
  unfold fB at h
  injection h with h
  exact List.map_inj_right (fun _ _ e => by injection e) |>.mp h
theorem fI_inj {a b : List Int} (h : fI a = fI b) : a = b := by
  unfold fI at h
  injection h with h
  exact List.map_inj_right (fun _ _ e => by injection e) |>.mp h
/-- the addresses of such data, with what stands there -/
theorem addr_of {β : Type} (f : β → PyData) (hf : ∀ b, ∃ ds, f b = .tuple ds) {H : Hp} : ∀ (bs : List β) (us : List V), DtA H us (bs.map f) → ∃ ks : List (Addr × β), us = ks.map (fun q => V.ref q.1) ∧ ks.map Prod.snd = bs ∧ ∀ q ∈ ks, Dt H (.ref q.1) (f q.2)
  | [], us, h => by cases h; exact ⟨[], rfl, rfl, fun _ z => nomatch z⟩
  | b :: bs, us, h => by
    rw [List.map_cons] at h
    cases h with
    | cons h1 h2 =>
      obtain ⟨ks, e1, e2, e3⟩ := addr_of f hf bs _ h2
      obtain ⟨ds, ed⟩ := hf b
      have h1' := h1
      rw [ed] at h1'
      obtain ⟨a, xs, rfl, _, _⟩ := h1'.tup_inv
      refine ⟨(a, b) :: ks, by rw [e1]; rfl, by rw [List.map_cons, e2], fun q hq => ?_⟩
      rcases List.mem_cons.mp hq with e | hq
      · rw [e]; exact h1
      · exact e3 q hq
theorem dta_refs {β : Type} (f : β → PyData) {H : Hp} : ∀ M : List (Addr × β), (∀ q ∈ M, Dt H (.ref q.1) (f q.2)) → DtA H (M.map fun q => V.ref q.1) (M.map fun q => f q.2)
  | [], _ => .nil
  | q :: M, h => .cons (h q List.mem_cons_self) (dta_refs f M fun x hx => h x (List.mem_cons_of_mem _ hx))
theorem nodup_inj {β γ : Type} (f : β → γ) (hf : ∀ x y, f x = f y → x = y) : ∀ l : List β, l.Nodup → (l.map f).Nodup
  | [], _ => List.nodup_nil
  | x :: l, h => by
    rw [List.nodup_cons] at h
    rw [List.map_cons, List.nodup_cons]
    refine ⟨fun hm => ?_, nodup_inj f hf l h.2⟩
    obtain ⟨y, hy, e⟩ := List.mem_map.mp hm
    exact h.1 (hf y x e ▸ hy)
/-- what a set of such data comes to -/
theorem set_data {β : Type} (f : β → PyData) (hf : ∀ x y, f x = f y → x = y) {H H2 : Hp} {ks M : List (Addr × β)} (hk : ∀ q ∈ ks, Dt H (.ref q.1) (f q.2)) (sub : ∀ q ∈ M, q ∈ ks) (all : ∀ q ∈ ks, q.2 ∈ M.map Prod.snd) (nd : (M.map Prod.snd).Nodup) (e : TLe H H2) :
    DtA H2 (M.map fun q => V.ref q.1) ((M.map Prod.snd).map f) ∧ ((M.map Prod.snd).map f).Nodup ∧ ∀ d, d ∈ (M.map Prod.snd).map f ↔ d ∈ (ks.map Prod.snd).map f := by
  refine ⟨?_, nodup_inj f hf _ nd, fun d => ⟨fun hd => ?_, fun hd => ?_⟩⟩
  · have := dta_refs f M fun q hq => (hk q (sub q hq)).to e
    rw [List.map_map]
    exact this
  · obtain ⟨b, hb, rfl⟩ := List.mem_map.mp hd
    obtain ⟨q, hq, rfl⟩ := List.mem_map.mp hb
    exact List.mem_map.mpr ⟨q.2, List.mem_map.mpr ⟨q, sub q hq, rfl⟩, rfl⟩
  · obtain ⟨b, hb, rfl⟩ := List.mem_map.mp hd
    obtain ⟨q, hq, rfl⟩ := List.mem_map.mp hb
    exact List.mem_map.mpr ⟨q.2, all q hq, rfl⟩
/-- the data of a turn -/
def Shape (ds : List PyData) : Prop := (∃ bs : List (List Bool), ds = bs.map fB ∧ ∀ b ∈ bs, b.length = 2) ∨ ∃ ns : List (List Int), ds = ns.map fI ∧ ∀ n ∈ ns, n.length = 3 ∧ TS.Bd 64 n
section
variable {P : Program} {w : World} {K : PySem.W.Frag} {σ : L2.St} {H : Hp} {Q : VK}
theorem r_sorted {n : Nat} {l : Addr} {us : List V} {ds : List PyData} (hs : σ[n]? = some (some (.ref l))) (hl : H l = some (.lst us)) (hu : DtA H us ds) (hz : us.length ≤ 8) (sh : Shape ds)
    (q : ∀ p vs es H2, Same H H2 → H p = none → H2 p = some (.lst vs) → DtA H2 vs es → es.Nodup → (∀ d, d ∈ es ↔ d ∈ ds) → Q (.ref p) H2) : tCB (rSortA K P w) (tCons (tCB (rSetA K P w) (tCons (tVar n) tNil)) tNil) σ H Q := by
  rcases sh with ⟨bs, rfl, b2⟩ | ⟨ns, rfl, n3⟩
  · obtain ⟨ks, e1, e2, e3⟩ := addr_of fB (fun b => ⟨_, rfl⟩) bs us hu
    subst e1 e2
    have sq : ∀ q ∈ ks, ∀ H', TLe H H' → SqT K H' q.1 (q.2.map V.bl) := fun q hq H' e => by
      obtain ⟨a, xs, ea, ha, hx⟩ := ((e3 q hq).to e).tup_inv
      injection ea with ea
      rw [ea, ← hx.bls]
      exact SqT.of ha
    refine ⟨_, hs, .inl ⟨l, ks, rfl, SqL.of hl, fun q hq => ⟨sq q hq H (TLe.refl _), b2 _ (List.mem_map.mpr ⟨q, hq, rfl⟩)⟩, fun a L ha sub all => .inl ⟨a, L, rfl, upd_same, fun q hq => sq q (sub q hq) _ (TLe.new ha), fun M p pm nd hp => ?_⟩⟩⟩
    have s2 : Same H (upd (upd H a (SetBO P w a L)) p (.lst (M.map fun q => V.ref q.1))) := (same_new ha).trans (same_new hp)
    obtain ⟨d1, d2, d3⟩ := set_data fB (fun _ _ => fB_inj) e3 (fun q hq => sub q (pm.mem_iff.mp hq)) (fun q hq => (pm.map Prod.snd).mem_iff.mpr (all q hq)) nd (same_tup s2)
    exact q p _ _ _ s2 ((same_new ha).free hp) upd_same d1 d2 d3
  · obtain ⟨ks, e1, e2, e3⟩ := addr_of fI (fun b => ⟨_, rfl⟩) ns us hu
    subst e1 e2
    have sq : ∀ q ∈ ks, ∀ H', TLe H H' → SqT K H' q.1 (q.2.map V.int) := fun q hq H' e => by
      obtain ⟨a, xs, ea, ha, hx⟩ := ((e3 q hq).to e).tup_inv
      injection ea with ea
      rw [ea, ← hx.ints]
      exact SqT.of ha
    rw [List.length_map] at hz
    refine ⟨_, hs, .inr ⟨l, ks, rfl, SqL.of hl, fun q hq => sq q hq H (TLe.refl _), by omega, fun a L ha sub all => .inr ⟨a, L, 3, 64, rfl, upd_same, fun q hq => sq q (sub q hq) _ (TLe.new ha), by decide, fun q hq => n3 _ (List.mem_map.mpr ⟨q, sub q hq, rfl⟩), fun M p pm nd _ _ hp => ?_⟩⟩⟩
    have s2 : Same H (upd (upd H a (SetTO P w a L)) p (.lst (M.map fun q => V.ref q.1))) := (same_new ha).trans (same_new hp)
    obtain ⟨d1, d2, d3⟩ := set_data fI (fun _ _ => fI_inj) e3 (fun q hq => sub q (pm.mem_iff.mp hq)) (fun q hq => (pm.map Prod.snd).mem_iff.mpr (all q hq)) nd (same_tup s2)
    exact q p _ _ _ s2 ((same_new ha).free hp) upd_same d1 d2 d3
theorem r_lenset {n : Nat} {l : Addr} {us : List V} {ns : List (List Int)} (hs : σ[n]? = some (some (.ref l))) (hl : H l = some (.lst us)) (hu : DtA H us (ns.map fI)) (hz : us.length ≤ 8)
    (q : ∀ (D : List PyData) H2, Same H H2 → D.Nodup → (∀ d, d ∈ D ↔ d ∈ ns.map fI) → Q (.int (D.length : Int)) H2) : tCB (rLenT P w) (tCons (tCB (rSetA K P w) (tCons (tVar n) tNil)) tNil) σ H Q := by
  obtain ⟨ks, e1, e2, e3⟩ := addr_of fI (fun b => ⟨_, rfl⟩) ns us hu
  subst e1 e2
  have sq : ∀ q ∈ ks, SqT K H q.1 (q.2.map V.int) := fun q hq => by
    obtain ⟨a, xs, ea, ha, hx⟩ := (e3 q hq).tup_inv
    injection ea with ea
    rw [ea, ← hx.ints]
    exact SqT.of ha
  rw [List.length_map] at hz
  refine ⟨_, hs, .inr ⟨l, ks, rfl, SqL.of hl, sq, by omega, fun a L ha sub all => ⟨a, L, rfl, upd_same, fun nd => ?_⟩⟩⟩
  obtain ⟨_, d2, d3⟩ := set_data fI (fun _ _ => fI_inj) e3 sub all nd (TLe.refl H)
  have := q _ (upd H a (SetTO P w a L)) (same_new ha) d2 d3
  rw [List.length_map, List.length_map] at this
  exact this
/-- l.index(d), l a list of unlike data -/
theorem ev_indexD {f : Fx} {ta te : TE} {l : Addr} {us : List V} {ds : List PyData} {d : PyData} {j : Nat} (ha : EvV f ta σ H (.ref l)) (hl : H l = some (.lst us)) (hu : DtA H us ds) (hB : ¬ f.B l) (hb : EvD f te σ H d) (sl : SeqAt.shaped (.list ds) = true) (sd : SeqAt.shaped d = true) (hd : ds[j]? = some d)
    (ne : ∀ (m : Nat) z, m < j → ds[m]? = some z → PyData.eqv z d = false) : EvD f (tBM K "list" (rIndexD K) ta (tCons te tNil)) σ H (.int (j : Int)) := fun H1 e1 Q q => ha H1 e1 _ fun H2 e2 => by
  have hl2 := (e1.trans e2).keep _ _ hB hl
  refine ⟨.inl ⟨rfl, _, SqL.of hl2⟩, hb H2 (e1.trans e2) _ fun v H3 e3 hv => ?_⟩
  have hl3 := e3.keep _ _ hB hl2
  exact ⟨l, v, d, ds, j, d, rfl, rfl, .lst (SqL.of hl3) (DtA.dp K _ _ (hu.to ((e1.trans e2).trans e3).tup)), hv.dp K, sl, sd, hd, eqv_self sd, ne, q _ H3 (e2.trans e3) (.int _)⟩
end
/-- a numbering by places in a list of unlike things -/
theorem num_at {α : Type} {xs D : List α} {ns : List Nat} (nd : D.Nodup) (mem : ∀ d, d ∈ D ↔ d ∈ xs) (len : ns.length = xs.length) (at_ : ∀ (t q : Nat), ns[t]? = some q → D[q]? = xs[t]?) : Num xs ns D.length := by
  have lt : ∀ (t q : Nat), ns[t]? = some q → q < D.length := fun t q e => by
    have h1 := at_ t q e
    have tl := (List.getElem?_eq_some_iff.mp e).1
    have h2 : xs[t]? = some (xs[t]'(by omega)) := by simp
    rw [h2] at h1
    exact (List.getElem?_eq_some_iff.mp h1).1
  refine NI.num ⟨len, fun t q e => ⟨at_ t q e, lt t q e⟩, nd, fun q hq => ?_⟩
  have hd : D[q]? = some D[q] := by simp [hq]
  obtain ⟨t, ht⟩ := List.mem_iff_getElem?.mp ((mem _).mp (List.mem_of_getElem? hd))
  have tl := (List.getElem?_eq_some_iff.mp ht).1
  obtain ⟨q', hq'⟩ : ∃ q', ns[t]? = some q' := ⟨ns[t]'(by omega), by simp⟩
  have h1 := at_ t q' hq'
  rw [ht] at h1
  have := ix_of_nodup nd h1 hd
  subst this
  exact List.mem_of_getElem? hq'
/-- the place of each -/
theorem place_of {α : Type} (D : List α) : ∃ g : α → Nat, ∀ d ∈ D, D[g d]? = some d := by
  classical
  refine ⟨fun d => if h : d ∈ D then (List.mem_iff_getElem?.mp h).choose else 0, fun d hd => ?_⟩
  show D[if h : d ∈ D then (List.mem_iff_getElem?.mp h).choose else 0]? = some d
  rw [dif_pos hd]
  exact (List.mem_iff_getElem?.mp hd).choose_spec
theorem same_count {α : Type} {A B C : List α} (nA : A.Nodup) (nB : B.Nodup) (hA : ∀ d, d ∈ A ↔ d ∈ C) (hB : ∀ d, d ∈ B ↔ d ∈ C) : A.length = B.length := ((List.perm_ext_iff_of_nodup nA nB).mpr fun d => (hA d).trans (hB d).symm).length_eq
theorem pig_any {α : Type} {A B : List α} (nd : A.Nodup) (mem : ∀ d ∈ A, d ∈ B) : A.length ≤ B.length := by
  obtain ⟨g, hg⟩ := place_of B
  have h := pg1 (A.map g) (List.range B.length) (nodup_of_ix _ fun i j x hi hj => by
    rw [List.getElem?_map] at hi hj
    obtain ⟨d, hd, e1⟩ := Option.map_eq_some_iff.mp hi
    obtain ⟨d', hd', e2⟩ := Option.map_eq_some_iff.mp hj
    have h1 := hg d (mem d (List.mem_of_getElem? hd))
    have h2 := hg d' (mem d' (List.mem_of_getElem? hd'))
    rw [e1] at h1
    rw [e2, h1] at h2
    have : d = d' := Option.some.inj h2
    subst this
    exact ix_of_nodup nd hd hd') fun x hx => by
      obtain ⟨d, hd, rfl⟩ := List.mem_map.mp hx
      exact List.mem_range.mpr (List.getElem?_eq_some_iff.mp (hg d (mem d hd))).1
  rw [List.length_map, List.length_range] at h
  exact h
/-! the turns -/
def eO (x : Bool × Bool) : PyData := fB [x.1, x.2]
def eT (x : Nat × Nat × Nat) : PyData := fI [(x.1 : Int), (x.2.1 : Int), (x.2.2 : Int)]
theorem eO_inj : ∀ x y, eO x = eO y → x = y := fun x y h => by
  have := fB_inj h
  simp only [List.cons.injEq, and_true] at this
  exact Prod.ext this.1 this.2
theorem eT_inj : ∀ x y, eT x = eT y → x = y := fun x y h => by
  have := fI_inj h
  simp only [List.cons.injEq, and_true] at this
  exact Prod.ext (Int.ofNat_inj.mp this.1) (Prod.ext (Int.ofNat_inj.mp this.2.1) (Int.ofNat_inj.mp this.2.2))
/-- what is known of the kinds at a turn -/
def Ph (L : Mach) (i : Nat) (ds : List PyData) : Prop := (i = 0 ∧ ds = (outs L).map eO) ∨ (1 ≤ i ∧ ∃ ks c, KInv L ks c ∧ i ≤ c ∧ ds = (trips L ks).map eT ∧ ∃ D : List PyData, D.Nodup ∧ (∀ d, d ∈ D ↔ d ∈ ds) ∧ c + 1 ≤ D.length)
theorem trips_lt {L : Mach} {ks : List Nat} {c : Nat} (ok : Ok L) (k : KInv L ks c) (hL : L.length ≤ 8) : ∀ x ∈ trips L ks, x.1 < 8 ∧ x.2.1 < 8 ∧ x.2.2 < 8 := by
  have cn := k.count
  have g : ∀ i, i < L.length → ks.getD i 0 < 8 := fun i hi => by
    have : ks[i]? = some (ks.getD i 0) := getD_at (by rw [k.len]; exact hi)
    have := k.lt _ (List.mem_of_getElem? this)
    omega
  intro x hx
  unfold trips at hx
  obtain ⟨i, hi, rfl⟩ := List.mem_map.mp hx
  have hi := List.mem_range.mp hi
  exact ⟨g i hi, g _ (ok.lt i false hi), g _ (ok.lt i true hi)⟩
theorem shape_T {L : Mach} {ks : List Nat} {c : Nat} (ok : Ok L) (k : KInv L ks c) (hL : L.length ≤ 8) : ∃ ns : List (List Int), (trips L ks).map eT = ns.map fI ∧ ∀ n ∈ ns, n.length = 3 ∧ TS.Bd 64 n := by
  refine ⟨(trips L ks).map fun x => [(x.1 : Int), (x.2.1 : Int), (x.2.2 : Int)], by rw [List.map_map]; rfl, fun n hn => ?_⟩
  obtain ⟨x, hx, rfl⟩ := List.mem_map.mp hn
  obtain ⟨h1, h2, h3⟩ := trips_lt ok k hL x hx
  refine ⟨rfl, fun m hm => ?_⟩
  simp only [List.mem_cons, List.not_mem_nil, or_false] at hm
  rcases hm with e | e | e <;> rw [e] <;> omega
theorem Ph.shape {L : Mach} {i : Nat} {ds : List PyData} (h : Ph L i ds) (ok : Ok L) (hL : L.length ≤ 8) : Shape ds := by
  rcases h with ⟨_, rfl⟩ | ⟨_, ks, c, k, _, rfl, _⟩
  · refine .inl ⟨(outs L).map fun x => [x.1, x.2], by rw [List.map_map]; rfl, fun b hb => ?_⟩
    obtain ⟨x, _, rfl⟩ := List.mem_map.mp hb
    rfl
  · exact .inr (shape_T ok k hL)
theorem Ph.len {L : Mach} {i : Nat} {ds : List PyData} (h : Ph L i ds) : ds.length = L.length := by
  rcases h with ⟨_, rfl⟩ | ⟨_, ks, c, k, _, rfl, _⟩
  · rw [List.length_map]; simp [outs]
  · rw [List.length_map]; simp [trips]
/-- numbered by the places in the sorted list of them, the kinds part the standings still, and by more numbers -/
theorem Ph.num {L : Mach} {i : Nat} {ds D : List PyData} {ns : List Nat} (h : Ph L i ds) (ok : Ok L) (nd : D.Nodup) (mem : ∀ d, d ∈ D ↔ d ∈ ds) (nm : Num ds ns D.length) : KInv L ns D.length ∧ i + 1 ≤ D.length := by
  rcases h with ⟨rfl, rfl⟩ | ⟨_, ks, c, k, ic, rfl, E, e1, e2, e3⟩
  · have ki := KInv.first (Num.of_map eO_inj nm)
    exact ⟨ki, ki.pos ok.pos⟩
  · have ki := KInv.next ok k (Num.of_map eT_inj nm)
    have := same_count e1 nd e2 mem
    exact ⟨ki, by omega⟩
theorem shape_eqv {ds : List PyData} (h : Shape ds) : (∀ d ∈ ds, SeqAt.shaped d = true) ∧ (∀ E : List PyData, (∀ d ∈ E, d ∈ ds) → SeqAt.shaped (.list E) = true) ∧ ∀ d ∈ ds, ∀ e ∈ ds, PyData.eqv d e = true → d = e := by
  have layB : ∀ b : List Bool, PyData.canLay0 (fB b) = true ∧ (fB b).depth ≤ 8 := fun b => ⟨by unfold fB; simp only [PyData.canLay0]; exact lay_bls b, by have := depth_bls b; unfold fB; simp only [PyData.depth]; omega⟩
  have layI : ∀ b : List Int, PyData.canLay0 (fI b) = true ∧ (fI b).depth ≤ 8 := fun b => ⟨by unfold fI; simp only [PyData.canLay0]; exact lay_ints b, by have := depth_ints b; unfold fI; simp only [PyData.depth]; omega⟩
  have each : ∀ d ∈ ds, PyData.canLay0 d = true ∧ d.depth ≤ 8 := fun d hd => by
    rcases h with ⟨bs, rfl, _⟩ | ⟨ns, rfl, _⟩
    · obtain ⟨b, _, rfl⟩ := List.mem_map.mp hd
      exact layB b
    · obtain ⟨b, _, rfl⟩ := List.mem_map.mp hd
      exact layI b
  have eB : ∀ a b : List Bool, PyData.eqvAll (a.map PyData.bool) (b.map PyData.bool) = true → a = b := by
    intro a
    induction a with
    | nil => intro b h; cases b with
      | nil => rfl
      | cons _ _ => simp [PyData.eqvAll] at h
    | cons x a ih => intro b h; cases b with
      | nil => simp [PyData.eqvAll] at h
      | cons y b =>
        rw [List.map_cons, List.map_cons] at h
        simp only [PyData.eqvAll, PyData.eqv, Bool.and_eq_true, beq_iff_eq] at h
        rw [h.1, ih b h.2]
  have eI : ∀ a b : List Int, PyData.eqvAll (a.map PyData.int) (b.map PyData.int) = true → a = b := by
    intro a
    induction a with
    | nil => intro b h; cases b with
      | nil => rfl
      | cons _ _ => simp [PyData.eqvAll] at h
    | cons x a ih => intro b h; cases b with
      | nil => simp [PyData.eqvAll] at h
      | cons y b =>
        rw [List.map_cons, List.map_cons] at h
        simp only [PyData.eqvAll, PyData.eqv, Bool.and_eq_true, beq_iff_eq] at h
        rw [h.1, ih b h.2]
  refine ⟨fun d hd => ?_, fun E hE => ?_, fun d hd e he q => ?_⟩
  · obtain ⟨h1, h2⟩ := each d hd
    unfold SeqAt.shaped
    rw [Bool.and_eq_true]
    exact ⟨h1, decide_eq_true (by omega)⟩
  · have all : PyData.canLayAll0 E = true ∧ PyData.depthAll E ≤ 8 := by
      induction E with
      | nil => exact ⟨by simp [PyData.canLayAll0], by simp [PyData.depthAll]⟩
      | cons x E ih =>
        obtain ⟨i1, i2⟩ := ih fun d hd => hE d (List.mem_cons_of_mem _ hd)
        obtain ⟨h1, h2⟩ := each x (hE x List.mem_cons_self)
        refine ⟨by simp only [PyData.canLayAll0, h1, i1, Bool.and_true], ?_⟩
        simp only [PyData.depthAll]
        omega
    unfold SeqAt.shaped
    rw [Bool.and_eq_true]
    refine ⟨by simp only [PyData.canLay0]; exact all.1, decide_eq_true ?_⟩
    have := all.2
    simp only [PyData.depth]
    omega
  · rcases h with ⟨bs, rfl, _⟩ | ⟨ns, rfl, _⟩
    · obtain ⟨a, _, rfl⟩ := List.mem_map.mp hd
      obtain ⟨b, _, rfl⟩ := List.mem_map.mp he
      unfold fB at q
      simp only [PyData.eqv] at q
      rw [eB a b q]
    · obtain ⟨a, _, rfl⟩ := List.mem_map.mp hd
      obtain ⟨b, _, rfl⟩ := List.mem_map.mp he
      unfold fI at q
      simp only [PyData.eqv] at q
      rw [eI a b q]
theorem num_trips {L : Mach} {ns : List Nat} {D : List PyData} (nd : D.Nodup) (mem : ∀ d, d ∈ D ↔ d ∈ (trips L ns).map eT) : ∃ r, Num (trips L ns) r D.length := by
  obtain ⟨g, hg⟩ := place_of D
  refine ⟨((trips L ns).map eT).map g, Num.of_map eT_inj (num_at nd mem (by rw [List.length_map]) fun t q e => ?_)⟩
  rw [List.getElem?_map] at e
  obtain ⟨d, hd, rfl⟩ := Option.map_eq_some_iff.mp e
  rw [hd]
  exact hg d ((mem d).mpr (List.mem_of_getElem? hd))
section
variable {P : Program} {w : World} {K : PySem.W.Frag} {mg : Str → Option Value} {base : Heap}
theorem ok_Lkinds (T : Top mg) (A : At K mg "_law_kinds" s_Lkinds ["_law_made"]) : Fn P w K mg base 1 "_law_kinds" ["_law_made"] sp_kinds := by
  refine A.fn c_Lkinds (fun vs H Q E h => by obtain ⟨_, h, _⟩ := h; exact h.length) fun f cdv A outer s H vs Q E hr h => ?_
  obtain ⟨L, h, il, hz, q⟩ := h
  obtain ⟨v, rfl, hd⟩ := dta1 h
  have hd' : Dt H v (.tuple (L.map eRow)) := hd
  have ok := il.ok
  refine ⟨_, (pss_cons (ps_setLc (i := 1) (own := [("_law_off", 5), ("_law_on", 6)]) (g := gTup _ 2 (gCons (gName 5) (gCons (gName 6) (gNil)))) (tt := tYes) rfl c_Lkinds.nd rfl rfl (sw_true rfl rfl rfl (by decide +kernel)) (pi_tup (pv 0)) (blkOk_by (own := [("_law_off", 5), ("_law_on", 6)]) (N := n_Lkinds) (sc := defScope s_Lkinds) (by decide +kernel)) (fun _ _ _ _ _ => (pg_tup rfl (pgs_cons (pg_name (i := 5) c_Lkinds.nd rfl (.inl rfl)) (pgs_cons (pg_name (i := 6) c_Lkinds.nd rfl (.inl rfl)) pgs_nil)))) (fun _ _ _ _ _ => pts_nil) (fun _ _ _ _ _ => (pe_tup (pa_cons (pe_ix (ixT K rfl) (pv 5) pe_int (fun _ _ => rfl)) (pa_cons (pe_ix (ixT K rfl) (pv 6) pe_int (fun _ _ => rfl)) pa_nil)))))
      (pss_cons (ps_for PassesOwn.never rfl (pi_range1 rfl T.range_ (pa_cons (pe_op op_add (pe_callB (cl_len K rfl) (by rfl) T.len_ (by decide +kernel) (pa_cons (pv 0) pa_nil)) pe_int) pa_nil)) (pg_name (i := 2) c_Lkinds.nd rfl (.inl rfl)) (pss_cons (ps_set (i := 3) c_Lkinds.nd rfl (.inr rfl) (pe_callB (cl_sorted K P w rfl rfl rfl rfl hr.units) (by rfl) T.sorted_ (by decide +kernel) (pa_cons (pe_callTy (cl_set K P w rfl rfl rfl rfl hr.units) (by rfl) T.set_ (by decide +kernel) (pa_cons (pv 1) pa_nil)) pa_nil)))
      (pss_cons (ps_set (i := 4) c_Lkinds.nd rfl (.inr rfl) (pe_lc (own := [("_law_kind", 7)]) (g := gName 7) (tt := tYes) rfl c_Lkinds.nd (pi_list (pv 1)) (blkOk_by (own := [("_law_kind", 7)]) (N := n_Lkinds) (sc := defScope s_Lkinds) (by decide +kernel)) (fun _ _ _ _ _ => (pg_name (i := 7) c_Lkinds.nd rfl (.inl rfl))) (fun _ _ _ _ _ => pts_nil) (fun _ _ _ _ _ => (pe_bmK K rfl PySem.F.plainAttrs_list PySem.F.slot_list_index PySem.F.type_list_index (mtIndexD K rfl (hu65 hr)) (pv 3) (pa_cons (pv 7) pa_nil)))))
      (pss_cons (ps_setLc (i := 1) (own := [("_law_at", 8)]) (g := gName 8) (tt := tYes) rfl c_Lkinds.nd rfl rfl (sw_true rfl rfl rfl (by decide +kernel)) (pi_range1 rfl T.range_ (pa_cons (pe_callB (cl_len K rfl) (by rfl) T.len_ (by decide +kernel) (pa_cons (pv 0) pa_nil)) pa_nil)) (blkOk_by (own := [("_law_at", 8)]) (N := n_Lkinds) (sc := defScope s_Lkinds) (by decide +kernel)) (fun _ _ _ _ _ => (pg_name (i := 8) c_Lkinds.nd rfl (.inl rfl))) (fun _ _ _ _ _ => pts_nil) (fun _ _ _ _ _ => (pe_tup (pa_cons (pe_ix (ixL K rfl) (pv 4) (pv 8) (fun _ _ => rfl)) (pa_cons (pe_ix (ixL K rfl) (pv 4) (pe_ix (ixT K rfl) (pe_ix (ixT K rfl) (pe_ix (ixT K rfl) (pv 0) (pv 8) (fun _ _ => rfl)) pe_int (fun _ _ => rfl)) pe_int (fun _ _ => rfl)) (fun _ _ => rfl)) (pa_cons (pe_ix (ixL K rfl) (pv 4) (pe_ix (ixT K rfl) (pe_ix (ixT K rfl) (pe_ix (ixT K rfl) (pv 0) (pv 8) (fun _ _ => rfl)) pe_int (fun _ _ => rfl)) pe_int (fun _ _ => rfl)) (fun _ _ => rfl)) pa_nil))))))
      (pss_one (ps_if (pt_cmpR op_eq (pe_callB (cl_lenT P w rfl rfl) (by rfl) T.len_ (by decide +kernel) (pa_cons (pe_callTy (cl_set K P w rfl rfl rfl rfl hr.units) (by rfl) T.set_ (by decide +kernel) (pa_cons (pv 1) pa_nil)) pa_nil)) (pe_callB (cl_len K rfl) (by rfl) T.len_ (by decide +kernel) (pa_cons (pv 3) pa_nil)) (nomark _)) (pss_one (ps_ret (pv 4))) pss_nil))))))
      (pss_one (ps_ret (pv 4))))), ?_⟩
  refine s_setL (f := f0) (el_mapT2 L (fun r => eSide r.1) (fun r => eSide r.2) (fun r => eO (r.1.1, r.2.1)) (ev_var rfl hd') f0_no (by omega) (fun _ _ => rfl) fun x hx a b H1 e ha hb => ?_) fun ka us H1 e1 ka0 hka hus => ?_
  · have ha' : Dt H1 a (.tuple [.bool x.1.1, .int (x.1.2 : Int)]) := ha
    have hb' : Dt H1 b (.tuple [.bool x.2.1, .int (x.2.2 : Int)]) := hb
    exact ev_tup (ea_cons (ev_ixT (ev_var rfl ha') ev_int rfl) (ea_cons (ev_ixT (ev_var rfl hb') ev_int rfl) ea_nil))
  have hus : DtA H1 us ((outs L).map eO) := by
    unfold outs
    rw [List.map_map]
    exact hus
  refine n_for ((ev_ii (f := f0) (ev_lenT (ev_var rfl (hd'.to e1.tup))) ev_int).run fun u H2 e2 hu => ?_)
  obtain rfl := hu.int_eq
  rw [List.length_map]
  refine ⟨_, rfl, by omega, by omega, ?_⟩
  have hn : ((L.length : Int) + 1).toNat = L.length + 1 := by omega
  refine for_it (walk_range (lo := 0) (n := ((L.length : Int) + 1).toNat)) (fun i σ H' => ∃ (ka : Addr) (us : List V) (ds : List PyData) (x2 x3 x4 : Option V), σ = [some v, some (.ref ka), x2, x3, x4, none, none, none, none] ∧ Same H H' ∧ H' ka = some (.lst us) ∧ DtA H' us ds ∧ Ph L i ds)
    ⟨ka, us, _, _, _, _, rfl, (le_same e1).trans (le_same e2), e2.keep _ _ (fun z => z) hka, hus.to e2.tup, .inl ⟨rfl, rfl⟩⟩ (fun _ _ _ _ _ => True.intro) (fun i y σ H3 H4 hi h hy => ?_) fun σ H3 h => ?_
  · obtain ⟨ka, us, ds, x2, x3, x4, rfl, s3, hka, hus, ph⟩ := h
    obtain ⟨rfl, rfl⟩ := hy
    have lds := ph.len
    have lus : us.length = L.length := by rw [hus.length, lds]
    have sh := ph.shape ok hz
    obtain ⟨sh1, sh2, sh3⟩ := shape_eqv sh
    -- signs
    refine n_set (r_sorted rfl hka hus (by omega) sh fun p vs es H5 s5 hp0 hp hvs nd mem => ?_)
    have hka5 := s5 _ _ hka
    have hus5 := hus.to (same_tup s5)
    obtain ⟨g, hg⟩ := place_of es
    have les : es.length ≤ 8 := by
      have := pig_any nd fun d hd => (mem d).mp hd
      omega
    -- places
    refine s_setL (f := f0) (el_mapL1 ds (fun d => d) (fun d => .int ((g d : Nat) : Int)) (evv_var rfl) hka5 (by rw [List.map_id']; exact hus5) f0_no (by omega) (fun _ => rfl) fun d hd x H6 e6 hx => ?_) fun pl ps H6 e6 pl0 hpl hps => ?_
    · have dm := (mem d).mpr hd
      refine ev_indexD (evv_var rfl) (e6.keep _ _ (fun z => z) hp) (hvs.to e6.tup) (fun z => z) (ev_var rfl hx) (sh2 es fun d hd => (mem d).mp hd) (sh1 d hd) (hg d dm) fun m z hm hz' => ?_
      cases e : PyData.eqv z d with
      | false => rfl
      | true =>
        have zd := sh3 z ((mem z).mp (List.mem_of_getElem? hz')) d hd e
        subst zd
        have := ix_of_nodup nd hz' (hg z dm)
        omega
    have hps' : DtA H6 ps ((ds.map g).map fun n : Nat => PyData.int (n : Int)) := by rw [List.map_map]; exact hps
    generalize hns : ds.map g = ns at *
    have lns : ns.length = L.length := by rw [← hns, List.length_map, lds]
    have nm : Num ds ns es.length := num_at nd mem (by rw [← hns, List.length_map]) fun t q e => by
      rw [← hns, List.getElem?_map] at e
      obtain ⟨d, hd, rfl⟩ := Option.map_eq_some_iff.mp e
      rw [hd]
      exact hg d ((mem d).mpr (List.mem_of_getElem? hd))
    obtain ⟨ki, ic⟩ := ph.num ok nd mem nm
    have epl : ps = vN ns := by
      have h1 : DtA H6 ps ((ns.map fun n : Nat => (n : Int)).map PyData.int) := by rw [List.map_map]; exact hps'
      rw [h1.ints, List.map_map]
      rfl
    have s6 : Same H H6 := s3.trans (s5.trans (le_same e6))
    have hd6 : Dt H6 v (.tuple (L.map eRow)) := hd'.to (same_tup s6)
    -- the next kinds
    refine s_setL (f := f0) (el_lcR (n := L.length) (fun k => eT (ns.getD k 0, ns.getD (go L k false) 0, ns.getD (go L k true) 0)) ((ev_lenT (ev_var rfl hd6)).is (by rw [List.length_map])) f0_no (by omega) (fun _ => rfl) fun k hk H7 e7 => ?_) fun kb ws H7 e7 kb0 hkb hws => ?_
    · have hpl7 := e7.keep _ _ (fun z => z) hpl
      have hps7 := hps'.to e7.tup
      have hd7 := hd6.to e7.tup
      have gt : ∀ j, j < L.length → ns[j]? = some (ns.getD j 0) := fun j hj => getD_at (by omega)
      refine ev_tup (ea_cons (ev_ixL (evv_var rfl) hpl7 (fun z => z) hps7 (ev_var rfl (.int (k : Int))) (atI_vN (gt k hk))) (ea_cons (ev_ixL (evv_var rfl) hpl7 (fun z => z) hps7 (ev_ixT (ev_ixT (ev_ixT (ev_var rfl hd7) (ev_var rfl (.int (k : Int))) (row_get hk)) ev_int rfl) ev_int rfl) (atI_vN (gt _ (ok.lt k false hk))))
        (ea_cons (ev_ixL (evv_var rfl) hpl7 (fun z => z) hps7 (ev_ixT (ev_ixT (ev_ixT (ev_var rfl hd7) (ev_var rfl (.int (k : Int))) (row_get hk)) ev_int rfl) ev_int rfl) (atI_vN (gt _ (ok.lt k true hk)))) ea_nil)))
    have hws' : DtA H7 ws ((trips L ns).map eT) := by unfold trips; rw [List.map_map]; exact hws
    have lws : ws.length = L.length := by rw [hws'.length, List.length_map]; simp [trips]
    obtain ⟨nn, en, _⟩ := shape_T ok ki hz
    have hws2 := hws'
    rw [en] at hws2
    have s7 := s6.trans (le_same e7)
    refine r_if (r_test (r_op (r_lenset rfl hkb hws2 (by omega) fun D H8 s8 ndD memD => ?_)))
    rw [← en] at memD
    have hp8 : H8 p = some (.lst vs) := s8 _ _ (e7.keep _ _ (fun z => z) (e6.keep _ _ (fun z => z) hp))
    refine (ev_lenL (f := f0) (evv_var rfl) hp8 (fun z => z)).run fun u H9 e9 hu => ?_
    obtain rfl := hu.int_eq
    have lvs : vs.length = es.length := hvs.length
    refine req_int ⟨_, rfl, ?_⟩
    rw [lvs]
    obtain ⟨r, nm2⟩ := num_trips ndD memD
    have cle := KInv.le ki nm2
    have s9 := s7.trans (s8.trans (le_same e9))
    by_cases hD : D.length = es.length
    · rw [decide_eq_true (show (D.length : Int) = (es.length : Int) by rw [hD])]
      refine iteT ?_
      obtain ⟨⟨_, kin⟩, _⟩ := KInv.stop ok ki nm2 (by omega)
      have hpl9 : H9 pl = some (.lst ps) := e9.keep _ _ (fun z => z) (s8 _ _ (e7.keep _ _ (fun z => z) hpl))
      have pl00 : H pl = none := (s3.trans s5).free pl0
      refine r_ret ⟨_, rfl, q pl H9 ns s9 pl00 (by rw [← epl]; exact hpl9) (nodup_of_ix ns fun i j x hi hj => ?_) lns⟩
      have il1 := (List.getElem?_eq_some_iff.mp hi).1
      have jl1 := (List.getElem?_eq_some_iff.mp hj).1
      refine il.red i j (by omega) (by omega) ((kin i j (by omega) (by omega)).mp ?_)
      rw [getD_of hi, getD_of hj]
    · rw [decide_eq_false (fun e => hD (Int.ofNat_inj.mp e))]
      refine iteF ?_
      exact ⟨kb, ws, _, _, _, _, rfl, s9, e9.keep _ _ (fun z => z) (s8 _ _ hkb), (hws'.to (same_tup s8)).to e9.tup, .inr ⟨by omega, ns, es.length, ki, ic, rfl, D, ndD, memD, by omega⟩⟩
  · obtain ⟨ka, us, ds, x2, x3, x4, rfl, s3, hka, hus, ph⟩ := h
    rw [hn] at ph
    rcases ph with ⟨h, _⟩ | ⟨_, ks, c, k, ic, _⟩
    · cases h
    · have := k.count
      omega
end
end K13
/-! K13U: parted_right, counters_right. -/
namespace K13
open PySem PySem.Spec PyProof.Rows L2 KM
def sp_parted : Sp := fun vs H Q _ => ∃ M N, DtA H vs [eM M, eM N] ∧ Ok M ∧ Ok N ∧ M.length ≤ 1000 ∧ N.length ≤ 1000 ∧ M.length * N.length ≤ 1999 ∧ RetD H Q (.bool true)
def sp_counters : Sp := fun vs H Q _ => ∃ (t cs : Addr) (n : Nat), vs = [.ref t, .int (n : Int)] ∧ TapeAt H t cs ∧ n ≤ 400 ∧ ∀ H', Le (fT t cs) H H' → Q (.bl true) H'
section
variable {f : Fx} {σ : L2.St} {H : Hp} {K : PySem.W.Frag} {ta tb te : TE} {M N L : Mach} {r : Option (List Bool)} {E : XK}
/-- unlike_flags and the law's own, once the answer is known -/
theorem ev_unl (ha : EvD f0 ta σ H (eM M)) (hb : EvD f0 tb σ H (eM N)) (okM : Ok M) (okN : Ok N) (zM : M.length ≤ 1000000) (zN : N.length ≤ 1000000) (z : M.length * N.length ≤ 999999) (u : IsUnl M N r) : EvD f0 (tCall sp_unlike [] E (tCons ta (tCons tb tNil))) σ H (eR r) :=
  fun H1 e1 Q q => (ea_cons ha (ea_cons hb ea_nil)) H1 e1 _ fun vs H2 e2 hv => by
    obtain ⟨x, y, rfl, hx, hy⟩ := dta2 hv
    exact ⟨M, N, .cons hx (.cons hy .nil), okM, okN, zM, zN, z, fun r' v H' s u' _ hd => q v H' (e2.trans (same_le s)) (by rw [unl_one u u']; exact hd)⟩
theorem ev_lst (ha : EvD f0 ta σ H (eM M)) (ok : Ok M) (zM : M.length ≤ 1000000) (il : IsLst M L) : EvD f0 (tCall sp_least_of [] E (tCons ta tNil)) σ H (eM L) :=
  fun H1 e1 Q q => (ea_cons ha ea_nil) H1 e1 _ fun vs H2 e2 hv => by
    obtain ⟨x, rfl, hx⟩ := dta1 hv
    exact ⟨M, .cons hx .nil, ok, zM, fun L' v H' s il' _ hd => q v H' (e2.trans (same_le s)) (by rw [lst_one il il' (Sm.refl _ _)]; exact hd)⟩
theorem ev_isN {d : PyData} (h : EvD f te σ H d) : EvD f (tOp (fun x y H Q => y = .non ∧ Q (.bl (decide (x = .non))) H) te (tC .non)) σ H (.bool (match d with | .none => true | _ => false)) := fun H1 e1 Q q => h H1 e1 _ fun v H2 e2 hv => by
  refine ⟨rfl, ?_⟩
  cases hv with
  | non => exact q _ H2 e2 (.bl true)
  | bl b => exact q _ H2 e2 (.bl false)
  | int b => exact q _ H2 e2 (.bl false)
  | str b => exact q _ H2 e2 (.bl false)
  | tup _ _ => exact q _ H2 e2 (.bl false)
theorem ev_notN {d : PyData} (h : EvD f te σ H d) : EvD f (tOp (fun x y H Q => y = .non ∧ Q (.bl (!decide (x = .non))) H) te (tC .non)) σ H (.bool (match d with | .none => false | _ => true)) := fun H1 e1 Q q => h H1 e1 _ fun v H2 e2 hv => by
  refine ⟨rfl, ?_⟩
  cases hv with
  | non => exact q _ H2 e2 (.bl false)
  | bl b => exact q _ H2 e2 (.bl true)
  | int b => exact q _ H2 e2 (.bl true)
  | str b => exact q _ H2 e2 (.bl true)
  | tup _ _ => exact q _ H2 e2 (.bl true)
theorem ev_shown {x : List Bool} (hs : ∀ H1, Le f0 H H1 → ∀ Q : VK, (∀ H2 a k, Le f0 H1 H2 → H2 a = some (sqO k (x.map V.bl)) → Q (.ref a) H2) → tb σ H1 Q) (ha : EvD f0 ta σ H (eM M)) (ok : Ok M) (zM : M.length ≤ 1000000) (zx : x.length ≤ 2000) : EvD f0 (tCall sp_shown [] E (tCons ta (tCons tb tNil))) σ H (eW (shw M 0 x)) :=
  fun H1 e1 Q q => ha H1 e1 _ fun v H2 e2 hv => hs H2 (e1.trans e2) _ fun H3 a k e3 ha3 =>
    ⟨M, v, a, k, x, rfl, hv.to e3.tup, ha3, ok, zM, zx, fun u H' s hd => q u H' ((e2.trans e3).trans (same_le s)) hd⟩
end
theorem cutD_init (ds : List PyData) (d : PyData) : cutD (ds ++ [d]) none (some (-1)) = ds := by
  unfold cutD
  have e : HT.sIx (ds ++ [d]).length (ds ++ [d]).length (some (-1)) = ds.length := by
    unfold HT.sIx
    dsimp only
    rw [if_pos (by decide), List.length_append, List.length_singleton]
    omega
  rw [e, HT.sIx_none]
  simp
theorem shw_same {M N : Mach} {x u : List Bool} {b : Bool} (h : IsUnl M N (some x)) (e : x = u ++ [b]) : shw M 0 u = shw N 0 u := by
  have key : ∀ n, n ≤ u.length → shw M 0 (u.take n) = shw N 0 (u.take n) := by
    intro n
    induction n with
    | zero => intro _; rw [List.take_zero]; rfl
    | succ n ih =>
      intro hn
      obtain ⟨c, hc⟩ : ∃ c, u[n]? = some c := ⟨u[n]'(by omega), by simp⟩
      rw [KM.take_next hc, shw_snoc, shw_snoc, ih (by omega)]
      have := h.ahead e (u.take n) c (u.drop (n + 1)) (by
        have h2 := List.take_append_drop (n + 1) u
        rw [KM.take_next hc, List.append_assoc] at h2
        exact h2.symm)
      rw [this]
  have := key u.length (Nat.le_refl _)
  rw [List.take_length] at this
  exact this
section
variable {P : Program} {w : World} {K : PySem.W.Frag} {mg : Str → Option Value} {base : Heap}
theorem ok_Lparted_right (T : Top mg) (A : At K mg "_law_parted_right" s_Lparted_right ["_law_one", "_law_other"]) (f_Lunlike : Fn P w K mg base 1 "_law_unlike" ["_law_one", "_law_other"] sp_unlike) (f_unlike_flags : Fn P w K mg base 6 "unlike_flags" ["one", "other"] sp_unlike)
    (f_least : Fn P w K mg base 6 "least" ["told"] sp_least_of) (f_shown_by : Fn P w K mg base 6 "shown_by" ["told", "flags"] sp_shown) : Fn P w K mg base 7 "_law_parted_right" ["_law_one", "_law_other"] sp_parted := by
  refine A.fn c_Lparted_right (fun vs H Q E h => by obtain ⟨_, _, h, _⟩ := h; exact h.length) fun f cdv A outer s H vs Q E hr h => ?_
  obtain ⟨M, N, h, okM, okN, zM, zN, zMN, q⟩ := h
  obtain ⟨v1, v2, rfl, h1, h2⟩ := dta2 h
  refine ⟨_, (pss_cons (ps_set (i := 2) c_Lparted_right.nd rfl (.inl rfl) (pe_fn f_Lunlike (hr.mono (by decide)) rfl (pa_cons (pv 0) (pa_cons (pv 1) pa_nil))))
      (pss_cons (ps_set (i := 3) c_Lparted_right.nd rfl (.inl rfl) (pe_fn f_unlike_flags (hr.mono (by decide)) rfl (pa_cons (pv 0) (pa_cons (pv 1) pa_nil))))
      (pss_cons (ps_if (PW.pt (pw_or (pt_cmpR (opNeD K rfl hr.units) (pv 3) (pv 2) (nomark _)) (pw_or1 (pt_cmpR (opNeD K rfl hr.units) (pe_fn f_unlike_flags (hr.mono (by decide)) rfl (pa_cons (pv 1) (pa_cons (pv 0) pa_nil))) (pv 2) (nomark _))))) (pss_one (ps_ret pe_bl)) pss_nil)
      (pss_cons (ps_if (pt_cmpR op_isN (pv 2) pe_non (nomark _)) (pss_one (ps_ret (pe_cmpR (opEqD K rfl hr.units) (pe_fn f_least (hr.mono (by decide)) rfl (pa_cons (pv 0) pa_nil)) (pe_fn f_least (hr.mono (by decide)) rfl (pa_cons (pv 1) pa_nil)) (nomark _)))) pss_nil)
      (pss_cons (ps_if (PW.pt (pw_or (pt_not (pt_val (pe_callB (cl_isi K rfl) (by rfl) T.isinstance_ (by decide +kernel) (pa_cons (pv 3) (pa_cons (pe_bltn (v := .ty "tuple") (by rfl) T.tuple_ (by decide +kernel) rfl) pa_nil))))) (pw_or1 (pt_cmpR op_gt (pe_callB (cl_len K rfl) (by rfl) T.len_ (by decide +kernel) (pa_cons (pe_lc (own := [("_law_flag", 6)]) (g := gName 6) rfl c_Lparted_right.nd (pi_tup (pv 3)) (blkOk_by (own := [("_law_flag", 6)]) (N := n_Lparted_right) (sc := defScope s_Lparted_right) (by decide +kernel)) (fun _ _ _ _ _ => (pg_name (i := 6) c_Lparted_right.nd rfl (.inl rfl))) (fun _ _ _ _ _ => (pts_one (pt_not (pt_val (pe_callB (cl_isi K rfl) (by rfl) T.isinstance_ (by decide +kernel) (pa_cons (pv 6) (pa_cons (pe_bltn (v := .ty "bool") (by rfl) T.bool_ (by decide +kernel) rfl) pa_nil))))))) (fun _ _ _ _ _ => (pv 6))) pa_nil)) pe_int (nomark _))))) (pss_one (ps_ret pe_bl)) pss_nil)
      (pss_cons (ps_set (i := 4) c_Lparted_right.nd rfl (.inl rfl) (pe_fn f_shown_by (hr.mono (by decide)) rfl (pa_cons (pv 0) (pa_cons (pv 3) pa_nil))))
      (pss_cons (ps_set (i := 5) c_Lparted_right.nd rfl (.inl rfl) (pe_fn f_shown_by (hr.mono (by decide)) rfl (pa_cons (pv 1) (pa_cons (pe_callTy (cl_list K rfl) (by rfl) T.list_ (by decide +kernel) (pa_cons (pv 3) pa_nil)) pa_nil))))
      (pss_one (ps_ret (pe_and (pe_cmpR (opEqD K rfl hr.units) (pe_slice (slTupA K rfl) (pv 4) po_none (po_some (pe_un un_neg pe_int))) (pe_slice (slTupA K rfl) (pv 5) po_none (po_some (pe_un un_neg pe_int))) (nomark _)) (pe_and (pe_cmpR op_ne (pe_ix (ixT K rfl) (pv 4) (pe_un un_neg pe_int) (fun _ _ => rfl)) (pe_ix (ixT K rfl) (pv 5) (pe_un un_neg pe_int) (fun _ _ => rfl)) (nomark _)) (pe_one (pe_cmpR (opNeD K rfl hr.units) (pe_fn f_least (hr.mono (by decide)) rfl (pa_cons (pv 0) pa_nil)) (pe_fn f_least (hr.mono (by decide)) rfl (pa_cons (pv 1) pa_nil)) (nomark _)))))))))))))), ?_⟩
  have zNM : N.length * M.length ≤ 1999 := by rw [Nat.mul_comm]; exact zMN
  refine n_set (r_call2 ⟨v1, rfl, v2, rfl, M, N, .cons h1 (.cons h2 .nil), okM, okN, by omega, by omega, by omega, fun r d1 H1 s1 hu hlen hd1 => ?_⟩)
  have a1 := h1.to (same_tup s1)
  have a2 := h2.to (same_tup s1)
  refine s_set (f := f0) (ev_unl (ev_var rfl a1) (ev_var rfl a2) okM okN (by omega) (by omega) (by omega) hu) fun d2 H2 e2 hd2 => ?_
  have b1 := a1.to e2.tup
  have b2 := a2.to e2.tup
  have hd1' := hd1.to e2.tup
  have sR := shaped_R r
  refine s_when (f := f0) (b := false) (EvT.is (et_or (et_test (ev_neD (ev_var rfl hd2) (ev_var rfl hd1') sR sR)) fun _ => et_test (ev_neD (ev_unl (ev_var rfl b2) (ev_var rfl b1) okN okM (by omega) (by omega) (by omega) hu.symm) (ev_var rfl hd1') sR sR)) (by rw [eqv_self sR]; rfl)) (fun z => by cases z) fun _ H3 e3 => ?_
  have c1 := b1.to e3.tup
  have c2 := b2.to e3.tup
  have s3 : Same H H3 := s1.trans (le_same (e2.trans e3))
  have hd1'' := hd1'.to e3.tup
  have hd2' := hd2.to e3.tup
  cases r with
  | none =>
    refine s_when (f := f0) (b := true) (et_test (ev_isN (ev_var rfl hd1''))) (fun _ H4 e4 => ?_) (fun z => by cases z)
    refine r_ret (r_op (r_call1 ⟨v1, rfl, M, .cons (c1.to e4.tup) .nil, okM, by omega, fun L u H5 s5 il _ hL => ?_⟩))
    have sm := hu.sm
    have il2 : IsLst N L := il.of sm.symm
    refine (ev_lst (E := E0) (ev_var rfl ((c2.to e4.tup).to (same_tup s5))) okN (by omega) il2).run fun u2 H6 e6 hL2 => ?_
    refine ⟨eM L, eM L, (hL.to e6.tup).dp K, hL2.dp K, shaped_M L, shaped_M L, ?_⟩
    rw [eqv_self (shaped_M L)]
    exact q _ H6 (s3.trans ((le_same e4).trans (s5.trans (le_same e6)))) (.bl true)
  | some x =>
    have hw := hd2'
    refine s_when (f := f0) (b := false) (et_test (ev_isN (ev_var rfl hd1''))) (fun z => by cases z) fun _ H4 e4 => ?_
    have hx4 : Dt H4 d2 (.tuple (x.map PyData.bool)) := hd2'.to e4.tup
    have xl : x.length ≤ 2000 := by have := hlen x rfl; omega
    obtain ⟨u, b, ex, hdif⟩ := hu.1
    refine s_when (f := f0) (b := false) (EvT.is (et_or (et_not (et_B (ev_isi (ev_var rfl hx4) k_tuple_tuple))) fun _ => et_test (ev_ib (ev_lenN (el_lcT1 x PyData.bool (fun _ => false) PyData.bool (ev_var rfl hx4) f0_no (by omega) (fun _ => rfl) fun y hy v H1 e hv => ⟨(et_not (et_B (ev_isi (ev_var rfl hv) k_bool_bool))).is rfl, fun z => by cases z⟩)) ev_int)) ?_) (fun z => by cases z) fun _ H5 e5 => ?_
    · have e : (x.filter fun _ => false) = [] := by simp
      rw [e]; rfl
    have e45 := e4.trans e5
    have c1' := c1.to e45.tup
    have c2' := c2.to e45.tup
    have hx5 := hx4.to e5.tup
    obtain ⟨xa, xs, rfl, hxa, hxs⟩ := hx5.tup_inv
    have exs := hxs.bls
    subst exs
    refine s_set (f := f0) (ev_shown (x := x) (fun H1 e1 Q q => ⟨_, rfl, q H1 xa false (Le.refl _) (e1.tup _ _ hxa)⟩) (ev_var rfl c1') okM (by omega) xl) fun m1 H6 e6 hm1 => ?_
    have hxa6 := e6.tup _ _ hxa
    refine s_set (f := f0) (ev_shown (x := x) (fun H1 e1 Q q => (el_listT (K := K) (f := f0) (te := tVar 3) (ev_var rfl (.tup hxa6 (DtA.of_bls x))) f0_no) H1 e1 _ fun p vs H2 e2 _ hp hv => q H2 p true e2 (by rw [hp, hv.bls]; rfl)) (ev_var rfl (c2'.to e6.tup)) okN (by omega) xl) fun m2 H7 e7 hm2 => ?_
    have c1'' := c1'.to (e6.trans e7).tup
    have c2'' := c2'.to (e6.trans e7).tup
    have e1 : shw M 0 x = shw M 0 u ++ [ot M (rn M 0 u) b] := by rw [ex, shw_snoc]
    have e2' : shw N 0 x = shw M 0 u ++ [ot N (rn N 0 u) b] := by rw [ex, shw_snoc, shw_same hu ex]
    have k1 : Dt H7 m1 (.tuple ((shw M 0 u).map PyData.bool ++ [.bool (ot M (rn M 0 u) b)])) := (hm1.to e7.tup).is (by unfold eW; rw [e1, List.map_append]; rfl)
    have k2 : Dt H7 m2 (.tuple ((shw M 0 u).map PyData.bool ++ [.bool (ot N (rn N 0 u) b)])) := hm2.is (by unfold eW; rw [e2', List.map_append]; rfl)
    have cut : ∀ {H : Hp} {σ : L2.St} {n : Nat} {m : V} {o : Bool}, σ[n]? = some (some m) → Dt H m (.tuple ((shw M 0 u).map PyData.bool ++ [.bool o])) → EvD f0 (tSl (rSlA K) (tVar n) tNoPart (tPart (tUn (rU fun i => .int (-i)) (tC (.int 1))))) σ H (eW (shw M 0 u)) := fun k1 k2 =>
      (ev_sl (lo := none) (hi := some (-1)) (ev_var k1 k2) eo_none (fun H1 e1 Q q => (ev_neg (f := f0) (i := 1) ev_int) H1 e1 _ fun v H2 e2 hv => ⟨_, hv.int_eq, q H2 e2⟩)).is (by rw [cutD_init]; rfl)
    have lst : ∀ {H : Hp} {σ : L2.St} {n : Nat} {m : V} {o : Bool}, σ[n]? = some (some m) → Dt H m (.tuple ((shw M 0 u).map PyData.bool ++ [.bool o])) → EvD f0 (tOp (rIxT K) (tVar n) (tUn (rU fun i => .int (-i)) (tC (.int 1)))) σ H (.bool o) := fun k1 k2 =>
      ev_ixT (ev_var k1 k2) (ev_neg ev_int) (atI_last _ _)
    have s7 : Same H H7 := s3.trans (le_same ((e45.trans e6).trans e7))
    have nsm := hu.not_sm
    refine s_ret (f := f0) (EvD.is (ev_and (ev_eqD (cut rfl k1) (cut rfl k2) (shaped_W _) (shaped_W _)) fun _ => ev_and (ev_neB (lst rfl k1) (lst rfl k2)) fun _ => (fun H8 e8 Q' q' => ?_ : EvD f0 _ _ _ (.bool true))) ?_) fun r H8 e8 hr => q r H8 (s7.trans (le_same e8)) hr
    · refine r_op (r_call1 ⟨v1, rfl, M, .cons (c1''.to e8.tup) .nil, okM, by omega, fun L u H9 s9 il _ hL => ?_⟩)
      refine r_call1 ⟨v2, rfl, N, .cons ((c2''.to e8.tup).to (same_tup s9)) .nil, okN, by omega, fun L2 u2 H10 s10 il2 _ hL2 => ?_⟩
      refine ⟨eM L, eM L2, (hL.to (same_tup s10)).dp K, hL2.dp K, shaped_M L, shaped_M L2, ?_⟩
      have hne : L ≠ L2 := fun e => by
        subst e
        exact nsm (il.sm.trans il2.sm.symm)
      rw [eqv_M, decide_eq_false hne]
      exact q' _ H10 ((same_le s9).trans (same_le s10)) (.bl true)
    · rw [eqv_self (shaped_W _), beq_eq_false_iff_ne.mpr hdif]
      rfl
theorem ok_Lcounters_right (T : Top mg) (A : At K mg "_law_counters_right" s_Lcounters_right ["_law_tape_here", "_law_n"]) (f_Lcounter : Fn P w K mg base 1 "_law_counter" ["_law_n"] sp_counter) (f_least : Fn P w K mg base 6 "least" ["told"] sp_least_of) (f_Lwider : Fn P w K mg base 2 "_law_wider" ["_law_tape_here", "_law_made"] sp_wider)
    (f_unlike_flags : Fn P w K mg base 6 "unlike_flags" ["one", "other"] sp_unlike) (f_Lpick : Fn P w K mg base 1 "_law_pick" ["_law_tape_here", "_law_many"] sp_pick) (f_shown_by : Fn P w K mg base 6 "shown_by" ["told", "flags"] sp_shown) (f_Lshown : Fn P w K mg base 1 "_law_shown" ["_law_made", "_law_flags"] sp_Lshown) :
    Fn P w K mg base 7 "_law_counters_right" ["_law_tape_here", "_law_n"] sp_counters := by
  refine A.fn c_Lcounters_right (fun vs H Q E h => by obtain ⟨_, _, _, rfl, _⟩ := h; rfl) fun f cdv A outer s H vs Q E hr h => ?_
  obtain ⟨t, cs, n, rfl, ta, hn, q⟩ := h
  refine ⟨_, (pss_cons (ps_set (i := 2) c_Lcounters_right.nd rfl (.inl rfl) (pe_fn f_Lcounter (hr.mono (by decide)) rfl (pa_cons (pv 1) pa_nil)))
      (pss_cons (ps_set (i := 3) c_Lcounters_right.nd rfl (.inl rfl) (pe_fn f_Lcounter (hr.mono (by decide)) rfl (pa_cons (pe_op op_add (pv 1) pe_int) pa_nil)))
      (pss_cons (ps_set (i := 4) c_Lcounters_right.nd rfl (.inl rfl) (pe_op (opRepA K rfl) (pe_tup (pa_cons pe_bl pa_nil)) (pe_op op_add (pv 1) pe_int)))
      (pss_cons (ps_if (PW.pt (pw_or (pt_cmpR (opNeD K rfl hr.units) (pe_fn f_least (hr.mono (by decide)) rfl (pa_cons (pv 2) pa_nil)) (pv 2) (nomark _)) (pw_or (pt_cmpR (opNeD K rfl hr.units) (pe_fn f_least (hr.mono (by decide)) rfl (pa_cons (pe_fn f_Lwider (hr.mono (by decide)) rfl (pa_cons (pv 0) (pa_cons (pv 3) pa_nil))) pa_nil)) (pv 3) (nomark _)) (pw_or1 (pt_cmpR op_notN (pe_fn f_unlike_flags (hr.mono (by decide)) rfl (pa_cons (pe_fn f_Lwider (hr.mono (by decide)) rfl (pa_cons (pv 0) (pa_cons (pv 2) pa_nil))) (pa_cons (pv 2) pa_nil))) pe_non (nomark _)))))) (pss_one (ps_ret pe_bl)) pss_nil)
      (pss_cons (ps_if (PW.pt (pw_or (pt_cmpR (opNeD K rfl hr.units) (pe_fn f_unlike_flags (hr.mono (by decide)) rfl (pa_cons (pv 2) (pa_cons (pv 3) pa_nil))) (pv 4) (nomark _)) (pw_or1 (pt_cmpR (opNeD K rfl hr.units) (pe_fn f_unlike_flags (hr.mono (by decide)) rfl (pa_cons (pe_fn f_Lwider (hr.mono (by decide)) rfl (pa_cons (pv 0) (pa_cons (pv 3) pa_nil))) (pa_cons (pv 2) pa_nil))) (pv 4) (nomark _))))) (pss_one (ps_ret pe_bl)) pss_nil)
      (pss_cons (ps_setLc (i := 5) (own := [("_law_turn", 6)]) (g := gName 6) (tt := tYes) rfl c_Lcounters_right.nd rfl rfl (sw_true rfl rfl rfl (by decide +kernel)) (pi_range1 rfl T.range_ (pa_cons pe_int pa_nil)) (blkOk_by (own := [("_law_turn", 6)]) (N := n_Lcounters_right) (sc := defScope s_Lcounters_right) (by decide +kernel)) (fun _ _ _ _ _ => (pg_name (i := 6) c_Lcounters_right.nd rfl (.inl rfl))) (fun _ _ _ _ _ => pts_nil) (fun _ _ _ _ _ => (pe_cmpR op_gt (pe_fn f_Lpick (hr.mono (by decide)) rfl (pa_cons (pv 0) (pa_cons pe_int pa_nil))) pe_int (nomark _))))
      (pss_one (ps_ret (pe_cmpR (opEqD K rfl hr.units) (pe_fn f_shown_by (hr.mono (by decide)) rfl (pa_cons (pv 2) (pa_cons (pv 5) pa_nil))) (pe_callTy (cl_tuple K rfl) (by rfl) T.tuple_ (by decide +kernel) (pa_cons (pe_fn f_Lshown (hr.mono (by decide)) rfl (pa_cons (pv 2) (pa_cons (pv 5) pa_nil))) pa_nil)) (nomark _)))))))))), ?_⟩
  have ok1 := cnt_ok n
  have ok2 := cnt_ok (n + 1)
  have l1 := cnt_len n
  have l2 := cnt_len (n + 1)
  have il1 := cnt_lst n
  have il2 := cnt_lst (n + 1)
  have ul := cnt_unl n
  have sz1 : (n + 1) * (n + 1 + 1) ≤ 401 * 402 := Nat.mul_le_mul (by omega) (by omega)
  have sz2 : (2 * (n + 1)) * (n + 1) ≤ 802 * 401 := Nat.mul_le_mul (by omega) (by omega)
  have sz3 : (2 * (n + 1 + 1)) * (n + 1) ≤ 804 * 401 := Nat.mul_le_mul (by omega) (by omega)
  refine s_set (f := f0) (ev_call (ea_cons (ev_var rfl (.int (n : Int))) ea_nil) (fun H1 vs e hv Q r => ⟨n, hv, by omega, r⟩) f0_same) fun v1 H1 e1 hv1 => ?_
  refine s_set (f := f0) (ev_call (d := eM (KM.cnt (n + 1))) (ea_cons (ev_ii (ev_var rfl (.int (n : Int))) ev_int) ea_nil) (fun H1 vs e hv Q r => ⟨n + 1, by push_cast; exact hv, by omega, r⟩) f0_same) fun v2 H2 e2 hv2 => ?_
  have en : ((n : Int) + 1).toNat = n + 1 := by omega
  refine s_set (f := f0) (d := eW (List.replicate (n + 1) true)) ((ev_repA (ev_tup (ea_cons ev_bl ea_nil)) (ev_ii (ev_var rfl (.int (n : Int))) ev_int) (by simp) (by omega) (by omega) (by simp)).is (by rw [en, rep_bl]; rfl)) fun v3 H3 e3 hv3 => ?_
  have a1 := (hv1.to e2.tup).to e3.tup
  have a2 := hv2.to e3.tup
  have t3 : Le (fT t cs) H H3 := le_T ((e1.trans e2).trans e3)
  -- the first test
  refine n_when ?_
  refine (et_test (f := f0) (b := false) ((ev_neD (ev_lst (E := E0) (ev_var rfl a1) ok1 (by omega) il1) (ev_var rfl a1) (shaped_M _) (shaped_M _)).is (by rw [eqv_self (shaped_M _)]; rfl))) H3 (Le.refl _) _ fun H4 e4 => ?_
  refine iteF ?_
  have a1' := a1.to e4.tup
  have a2' := a2.to e4.tup
  have t4 := t3.trans (le_T e4)
  refine r_test (r_op (r_call1 (r_call2 ⟨_, rfl, _, rfl, t, cs, v2, KM.cnt (n + 1), rfl, t4.inv ta, a2', ok2, by omega, fun u H5 W l5 okW lW smW hW => ?_⟩)))
  refine ⟨W, .cons hW .nil, okW, by omega, fun L v6 H6 s6 il _ hL => ⟨v2, rfl, ?_⟩⟩
  have eL : L = KM.cnt (n + 1) := lst_one il il2 smW
  subst eL
  have t6 := (t4.trans l5).trans (same_T s6)
  have b1 := (a1'.to l5.tup).to (same_tup s6)
  have b2 := (a2'.to l5.tup).to (same_tup s6)
  refine ⟨_, _, hL.dp K, b2.dp K, shaped_M _, shaped_M _, ?_⟩
  rw [eqv_self (shaped_M _)]
  refine ⟨_, rfl, iteF ?_⟩
  refine r_test (r_op (r_call2 (r_call2 ⟨_, rfl, _, rfl, t, cs, v1, KM.cnt n, rfl, t6.inv ta, b1, ok1, by omega, fun u2 H7 W2 l7 okW2 lW2 smW2 hW2 => ?_⟩)))
  have c1 := b1.to l7.tup
  have c2 := b2.to l7.tup
  have t7 := t6.trans l7
  refine ⟨v1, rfl, W2, KM.cnt n, .cons hW2 (.cons c1 .nil), okW2, ok1, by omega, by omega, by rw [lW2, l1]; omega, fun r v8 H8 s8 hu _ hr => ?_⟩
  have er : r = none := unl_one hu (IsUnl.of_sm smW2)
  subst er
  obtain rfl := (show Dt H8 v8 .none from hr).non_eq
  refine ⟨rfl, _, rfl, ?_⟩
  rw [decide_eq_true (rfl : V.non = V.non)]
  refine iteF ?_
  have t8 := t7.trans (same_T s8)
  have d1 := c1.to (same_tup s8)
  have d2 := c2.to (same_tup s8)
  have d3 := ((((hv3.to e4.tup).to l5.tup).to (same_tup s6)).to l7.tup).to (same_tup s8)
  -- the second test
  refine n_when ?_
  refine (et_test (f := f0) (b := false) ((ev_neD (ev_unl (E := E0) (ev_var rfl d1) (ev_var rfl d2) ok1 ok2 (by omega) (by omega) (by rw [l1, l2]; omega) ul) (ev_var rfl d3) (shaped_R _) (shaped_W _)).is (by show PyData.bool (!PyData.eqv (eW _) (eW _)) = _; rw [eqv_self (shaped_W _)]; rfl))) H8 (Le.refl _) _ fun H9 e9 => ?_
  refine iteF ?_
  have t9 := t8.trans (le_T e9)
  have f1 := d1.to e9.tup
  have f2 := d2.to e9.tup
  have f3 := d3.to e9.tup
  refine r_test (r_op (r_call2 (r_call2 ⟨_, rfl, _, rfl, t, cs, v2, KM.cnt (n + 1), rfl, t9.inv ta, f2, ok2, by omega, fun u3 H10 W3 l10 okW3 lW3 smW3 hW3 => ?_⟩)))
  have g1 := f1.to l10.tup
  have g3 := f3.to l10.tup
  have t10 := t9.trans l10
  refine ⟨v1, rfl, W3, KM.cnt n, .cons hW3 (.cons g1 .nil), okW3, ok1, by omega, by omega, by rw [lW3, l2, l1]; omega, fun r v11 H11 s11 hu _ hr => ⟨v3, rfl, ?_⟩⟩
  have er : r = some (List.replicate (n + 1) true) := unl_one hu (IsUnl.of smW3.symm ul.symm)
  subst er
  have k1 := g1.to (same_tup s11)
  have k3 := g3.to (same_tup s11)
  have t11 := t10.trans (same_T s11)
  refine ⟨_, _, hr.dp K, k3.dp K, shaped_R _, shaped_W _, ?_⟩
  refine ⟨_, rfl, ?_⟩
  rw [show PyData.eqv (eR (some (List.replicate (n + 1) true))) (eW (List.replicate (n + 1) true)) = true from eqv_self (shaped_W _)]
  refine iteF ?_
  -- flags = [pick(50) > 0 for turn in range(1000)]
  refine n_set ⟨_, rfl, by decide, by decide, fun D hD => ?_⟩
  have D0 : H D = none := by
    have tD : t ≠ D := by
      obtain ⟨_, _, _, _, h, _⟩ := (t11.inv ta).tp
      exact ne_of_none h hD
    exact t11.back (Ne.symm tD) hD
  have tD : t ≠ D := by
    obtain ⟨_, _, _, _, h, _⟩ := (t11.inv ta).tp
    exact ne_of_none h hD
  refine lc_it (walk_range (lo := 0) (n := (1000 : Int).toNat)) (fun i H' => ∃ bs : List Bool, Le (fT t cs) H H' ∧ TLe H11 H' ∧ H' D = some (.lst (bs.map V.bl)) ∧ bs.length = i) ⟨[], t11.trans (Le.new hD), TLe.new hD, upd_same, rfl⟩ (fun _ _ _ _ => True.intro) (fun i y H12 H13 hi h hy => ?_) fun H12 h => ?_
  · obtain ⟨bs, t12, tl12, hD12, hbl⟩ := h
    obtain ⟨rfl, rfl⟩ := hy
    refine ⟨rfl, ?_⟩
    unfold tYes
    refine iteT ?_
    refine r_op (r_pick rfl (t12.inv ta) ev_int (by decide) (by decide) fun z H14 _ e14 => ⟨_, _, rfl, rfl, ?_⟩)
    have hD14 := e14.keep _ _ (Ne.symm tD) hD12
    have hi2 : i < 1000 := hi
    refine ⟨_, hD14, by rw [List.length_map, hbl, sizeLine_eq]; omega, bs ++ [decide ((0 : Int) < (z : Int))], le_lst (t12.trans e14) D0 hD14, (tl12.trans e14.tup).trans (tle_lst hD14), ?_, by rw [List.length_append, hbl]; rfl⟩
    rw [upd_same, List.map_append]
    rfl
  · obtain ⟨bs, t12, tl12, hD12, hbl⟩ := h
    have bl : bs.length = 1000 := hbl
    have m1 := k1.to tl12
    refine s_ret (f := f0) (d := .bool true) (EvD.is (ev_eqD (ev_shown (x := bs) (fun H1 e1 Q q => ⟨_, rfl, q H1 D true (Le.refl _) (e1.keep _ _ (fun z => z) hD12)⟩) (ev_var rfl m1) ok1 (by omega) (by omega)) (ev_tupN (ds := (shw (KM.cnt n) 0 bs).map PyData.bool) (fun H13 e13 Q' q' => ?_)) (shaped_W _) (shaped_W (shw (KM.cnt n) 0 bs))) (by show PyData.bool (PyData.eqv (eW _) (eW _)) = _; rw [eqv_self (shaped_W _)])) fun r H14 e14 hr => ?_
    · refine r_call2 ⟨v1, rfl, _, rfl, KM.cnt n, v1, D, bs, rfl, m1.to e13.tup, ok1, e13.keep _ _ (fun z => z) hD12, by omega, fun p H15 s15 hp hp15 => ?_⟩
      exact q' p _ H15 (same_le s15) hp hp15 (DtA.of_bls _)
    · obtain rfl := hr.bl_eq
      exact q H14 (t12.trans (le_T e14))
end
end K13
/-! K13V: law. -/
namespace K13
open PySem PySem.Spec PyProof.Rows L2 KM
def sp_lawK (K : PySem.W.Frag) : Sp := fun vs H Q _ => ∃ (a : Addr) (ns : List Int), vs = [.ref a] ∧ SqL K H a (ns.map V.int) ∧ ∀ H', Q (.bl true) H'
theorem r_cb2 {rr : List V → Hp → VK → Prop} {ta tb : TE} {σ : L2.St} {H : Hp} {Q : VK} (h : ta σ H fun x H1 => tb σ H1 fun y H2 => rr [x, y] H2 Q) : tCB rr (tCons ta (tCons tb tNil)) σ H Q := h
theorem s_whenE {tt : TT} {tu tz : TS} {D : Ends} {σ : L2.St} {H : Hp} (J : Hp → Prop) (hz : ∀ H', J H' → tz D σ H') (h : ∀ QT : Bool → Hp → Prop, (∀ H', J H' → QT false H') → tt σ H QT) : tSeq (tIfS tt tu tNext) tz D σ H := n_when (h _ fun H' j => iteF (hz H' j))
theorem ev_notB {f : Fx} {σ : L2.St} {H : Hp} {te : TE} {b : Bool} (h : EvD f te σ H (.bool b)) : EvD f (tOp rNotB te (tC (.bl true))) σ H (.bool (!b)) := fun H1 e1 Q q => h H1 e1 _ fun v H2 e2 hv => by
  obtain rfl := hv.bl_eq
  cases b
  · exact ⟨_, _, rfl, rfl, q _ H2 e2 (.bl _)⟩
  · exact ⟨_, _, rfl, rfl, q _ H2 e2 (.bl _)⟩
section
variable {P : Program} {w : World} {K : PySem.W.Frag} {mg : Str → Option Value} {base : Heap}
/-- the list of counters' sizes -/
def sizes : List Int := [400, 30, 25, 17, 21, 12]
theorem sizes_at (x : Nat) : ∃ n : Nat, atI (sizes.map PyData.int) (if (x : Int) < 5 then (x : Int) else 5) = some (.int (n : Int)) ∧ n ≤ 400 := by
  have h : (if (x : Int) < 5 then (x : Int) else 5) = 0 ∨ (if (x : Int) < 5 then (x : Int) else 5) = 1 ∨ (if (x : Int) < 5 then (x : Int) else 5) = 2 ∨ (if (x : Int) < 5 then (x : Int) else 5) = 3 ∨ (if (x : Int) < 5 then (x : Int) else 5) = 4 ∨ (if (x : Int) < 5 then (x : Int) else 5) = 5 := by
    split <;> omega
  rcases h with h | h | h | h | h | h <;> rw [h]
  · exact ⟨400, rfl, by decide⟩
  · exact ⟨30, rfl, by decide⟩
  · exact ⟨25, rfl, by decide⟩
  · exact ⟨17, rfl, by decide⟩
  · exact ⟨21, rfl, by decide⟩
  · exact ⟨12, rfl, by decide⟩
theorem fnOk_of {x : Str} {st : Stmt} {N ps : List Str} {k : Nat} {sp : Sp} {f' : Addr} {fd : FuncData} (F : FunD K x x (defArgs st) (defBody st) (defScope st) [] [] f' fd) (S : FnScope N ps (defScope st)) (len : ∀ vs H Q E, sp vs H Q E → vs.length = ps.length)
    (hbody : ∀ (f : Addr) (cdv : Value) (A : Around) (outer : List Env) (s : Shared) (H : Hp) (vs : List V) (Q : VK) (E : XK), Room k (A.deeper (envOfC x (defScope st) s.heap.objs.size f cdv)) → sp vs H Q E →
      ∃ t, PSs (cxOf CX0 P w K mg base N x (defScope st) f cdv A outer s H E).nox (defBody st) t ∧ t { nx := fun _ H' => Q .non H', rt := Q } (start N vs) H) : FnOk P w K mg base CX0 (k + 1) f' fd ps sp :=
  F.ok S len fun cdv A outer s H vs Q E hr h => by
    obtain ⟨t, h1, h2⟩ := hbody f' cdv A outer s H vs Q E hr h
    exact ⟨t, h1.nox, h2⟩
theorem ok_law {f' : Addr} {fd : FuncData} (T : Top mg) (F : FunD K "law" "law" (defArgs s_law) (defBody s_law) (defScope s_law) [] [] f' fd) (f_Ltape : Fn P w K mg base 1 "_law_tape" ["_law_script"] (sp_tapeK K)) (f_Lpick : Fn P w K mg base 1 "_law_pick" ["_law_tape_here", "_law_many"] sp_pick) (f_Lcounters_right : Fn P w K mg base 7 "_law_counters_right" ["_law_tape_here", "_law_n"] sp_counters)
    (f_Lmachine : Fn P w K mg base 2 "_law_machine" ["_law_tape_here"] sp_drawn) (f_least : Fn P w K mg base 6 "least" ["told"] sp_least_of) (f_is_machine : Fn P w K mg base 5 "is_machine" ["thing"] sp_told) (f_Lis_least : Fn P w K mg base 2 "_law_is_least" ["_law_made"] sp_is_least)
    (f_Lunlike : Fn P w K mg base 1 "_law_unlike" ["_law_one", "_law_other"] sp_unlike) (f_Lwider : Fn P w K mg base 2 "_law_wider" ["_law_tape_here", "_law_made"] sp_wider) (f_Lparted_right : Fn P w K mg base 7 "_law_parted_right" ["_law_one", "_law_other"] sp_parted)
    (f_machine : Fn P w K mg base 8 "machine" ["row"] sp_machine) (f_Llive_row : Fn P w K mg base 2 "_law_live_row" ["_law_tape_here", "_law_most"] sp_live) : FnOk P w K mg base CX0 9 f' fd ["_law_script"] (sp_lawK K) := by
  refine fnOk_of F c_law (fun vs H Q E h => by obtain ⟨_, _, rfl, _⟩ := h; rfl) fun f cdv A outer s H vs Q E hr h => ?_
  obtain ⟨a, ns, rfl, ha, q⟩ := h
  refine ⟨_, (pss_cons (ps_set (i := 1) c_law.nd rfl (.inl rfl) (pe_fn f_Ltape (hr.mono (by decide)) rfl (pa_cons (pv 0) pa_nil)))
      (pss_cons (ps_set (i := 2) c_law.nd rfl (.inl rfl) (pe_ix (ixL K rfl) (pe_lst (pa_cons pe_int (pa_cons pe_int (pa_cons pe_int (pa_cons pe_int (pa_cons pe_int (pa_cons pe_int pa_nil))))))) (pe_callB (cl_min2 rfl) (by rfl) T.min_ (by decide +kernel) (pa_cons pe_int (pa_cons (pe_fn f_Lpick (hr.mono (by decide)) rfl (pa_cons (pv 1) (pa_cons pe_int pa_nil))) pa_nil))) (fun _ _ => rfl)))
      (pss_cons (ps_if (PW.pt (pw_and (PW.pt (pw_or (pt_cmpR op_gt (pv 2) pe_int (nomark _)) (pw_or1 (pt_cmpR op_eq (pe_fn f_Lpick (hr.mono (by decide)) rfl (pa_cons (pv 1) (pa_cons pe_int pa_nil))) pe_int (nomark _))))) (pw_and1 (pt_not (pt_val (pe_fn f_Lcounters_right (hr.mono (by decide)) rfl (pa_cons (pv 1) (pa_cons (pv 2) pa_nil)))))))) (pss_one (ps_ret pe_bl)) pss_nil)
      (pss_cons (ps_for PassesOwn.never rfl (pi_range1 rfl T.range_ (pa_cons pe_int pa_nil)) (pg_name (i := 3) c_law.nd rfl (.inl rfl)) (pss_cons (ps_set (i := 4) c_law.nd rfl (.inl rfl) (pe_fn f_Lmachine (hr.mono (by decide)) rfl (pa_cons (pv 1) pa_nil)))
      (pss_cons (ps_set (i := 5) c_law.nd rfl (.inl rfl) (pe_fn f_least (hr.mono (by decide)) rfl (pa_cons (pv 4) pa_nil)))
      (pss_cons (ps_if (PW.pt (pw_or (pt_cmpR op_notBl (pe_fn f_is_machine (hr.mono (by decide)) rfl (pa_cons (pv 4) pa_nil)) pe_bl (nomark _)) (pw_or (pt_not (pt_val (pe_fn f_Lis_least (hr.mono (by decide)) rfl (pa_cons (pv 5) pa_nil)))) (pw_or (pt_cmpR (opNeD K rfl hr.units) (pe_fn f_least (hr.mono (by decide)) rfl (pa_cons (pv 5) pa_nil)) (pv 5) (nomark _)) (pw_or1 (pt_cmpR op_notN (pe_fn f_Lunlike (hr.mono (by decide)) rfl (pa_cons (pv 4) (pa_cons (pv 5) pa_nil))) pe_non (nomark _))))))) (pss_one (ps_ret pe_bl)) pss_nil)
      (pss_cons (ps_set (i := 6) c_law.nd rfl (.inl rfl) (pe_fn f_Lwider (hr.mono (by decide)) rfl (pa_cons (pv 1) (pa_cons (pv 4) pa_nil))))
      (pss_cons (ps_if (PW.pt (pw_or (pt_cmpR (opNeD K rfl hr.units) (pe_fn f_least (hr.mono (by decide)) rfl (pa_cons (pv 6) pa_nil)) (pv 5) (nomark _)) (pw_or1 (pt_not (pt_val (pe_fn f_Lparted_right (hr.mono (by decide)) rfl (pa_cons (pv 4) (pa_cons (pv 6) pa_nil)))))))) (pss_one (ps_ret pe_bl)) pss_nil)
      (pss_cons (ps_set (i := 7) c_law.nd rfl (.inl rfl) (pe_fn f_Lmachine (hr.mono (by decide)) rfl (pa_cons (pv 1) pa_nil)))
      (pss_one (ps_if (PW.pt (pw_or (pt_not (pt_val (pe_fn f_Lparted_right (hr.mono (by decide)) rfl (pa_cons (pv 4) (pa_cons (pv 7) pa_nil))))) (pw_or (pt_not (pt_val (pe_fn f_Lparted_right (hr.mono (by decide)) rfl (pa_cons (pv 6) (pa_cons (pv 7) pa_nil))))) (pw_or1 (pt_not (pt_val (pe_fn f_Lparted_right (hr.mono (by decide)) rfl (pa_cons (pv 5) (pa_cons (pv 7) pa_nil))))))))) (pss_one (ps_ret pe_bl)) pss_nil)))))))))
      (pss_cons (ps_set (i := 8) c_law.nd rfl (.inl rfl) (pe_fn f_machine (hr.mono (by decide)) rfl (pa_cons (pe_fn f_Llive_row (hr.mono (by decide)) rfl (pa_cons (pv 1) (pa_cons pe_int pa_nil))) pa_nil)))
      (pss_cons (ps_set (i := 9) c_law.nd rfl (.inl rfl) (pe_fn f_machine (hr.mono (by decide)) rfl (pa_cons (pe_fn f_Llive_row (hr.mono (by decide)) rfl (pa_cons (pv 1) (pa_cons pe_int pa_nil))) pa_nil)))
      (pss_cons (ps_if (pt_cmpR op_gt (pe_op op_mul (pe_callB (cl_len K rfl) (by rfl) T.len_ (by decide +kernel) (pa_cons (pv 8) pa_nil)) (pe_callB (cl_len K rfl) (by rfl) T.len_ (by decide +kernel) (pa_cons (pv 9) pa_nil))) pe_int (nomark _)) (pss_one (ps_ret (pe_cmpR (opEqD K rfl hr.units) (pe_fn f_least (hr.mono (by decide)) rfl (pa_cons (pv 8) pa_nil)) (pv 8) (nomark _)))) pss_nil)
      (pss_one (ps_ret (pe_and (pe_cmpR (opEqD K rfl hr.units) (pe_fn f_least (hr.mono (by decide)) rfl (pa_cons (pv 8) pa_nil)) (pv 8) (nomark _)) (pe_one (pe_fn f_Lparted_right (hr.mono (by decide)) rfl (pa_cons (pv 8) (pa_cons (pv 9) pa_nil)))))))))))))), ?_⟩
  refine n_set (r_call1 ⟨.ref a, rfl, a, ns, rfl, ha, fun t cs H1 ta => ?_⟩)
  -- n
  refine n_set (r_op ((el_lst (f := f0) (ds := sizes.map PyData.int) (ea_cons ev_int (ea_cons ev_int (ea_cons ev_int (ea_cons ev_int (ea_cons ev_int (ea_cons ev_int ea_nil)))))) f0_no) H1 (Le.refl _) _ fun sz sv H2 e2 hsz0 hsz hsv => ?_))
  have ta2 := (le_T (T := t) (cs := cs) e2).inv ta
  have tsz : sz ≠ t := by
    obtain ⟨_, _, _, _, h, _⟩ := ta.tp
    exact Ne.symm (ne_of_none h hsz0)
  refine r_cb2 (r_tc (v := .int 5) ?_)
  refine r_pick rfl ta2 ev_int (by decide) (by decide) fun x H3 hx e3 => ⟨_, _, rfl, ?_⟩
  obtain ⟨n, hn, n400⟩ := sizes_at x
  obtain ⟨nv, hnv, hnd⟩ := atI_map (hsv.to e3.tup) hn
  obtain rfl := hnd.int_eq
  refine ⟨sz, sv, _, _, rfl, rfl, SqL.of (e3.keep _ _ tsz hsz), hnv, ?_⟩
  dsimp only
  have ta3 := e3.inv ta2
  -- the counters
  refine s_whenE (fun H' => TapeAt H' t cs) (fun H4 ta4 => ?_) (fun QT hQ => ?_)
  · refine n_for ⟨_, rfl, by decide, by decide, ?_⟩
    refine for_it (walk_range (lo := 0) (n := (3 : Int).toNat)) (fun i σ H' => ∃ x3 x4 x5 x6 x7, σ = [some (.ref a), some (.ref t), some (.int (n : Int)), x3, x4, x5, x6, x7, none, none] ∧ TapeAt H' t cs) ⟨_, _, _, _, _, rfl, ta4⟩ (fun _ _ _ _ _ => True.intro) (fun i y σ H5 H6 hi h hy => ?_) fun σ H5 h => ?_
    · obtain ⟨x3, x4, x5, x6, x7, rfl, ta5⟩ := h
      obtain ⟨rfl, rfl⟩ := hy
      refine n_set (r_call1 ⟨_, rfl, t, cs, rfl, ta5, fun v1 H7 M l7 okM lM hM => ?_⟩)
      have ta7 := l7.inv ta5
      refine n_set (r_call1 ⟨_, rfl, M, .cons hM .nil, okM, by omega, fun L v2 H8 s8 il lL hL => ?_⟩)
      have ta8 := (same_T (T := t) (cs := cs) s8).inv ta7
      have hM8 := hM.to (same_tup s8)
      refine s_when (f := f0) (b := false) (EvT.is (et_or (et_test (ev_notB (b := true) (ev_call (d := .bool true) (ea_cons (ev_var rfl hM8) ea_nil) (fun H1 vs e hv Q r => ⟨M, hv, okM, by omega, r⟩) f0_same))) fun _ => et_or (et_not (et_B (ev_call (d := .bool true) (ea_cons (ev_var rfl hL) ea_nil) (fun H1 vs e hv Q r => ⟨L, hv, il.self, by omega, r⟩) f0_same))) fun _ =>
        et_or (et_test (ev_neD (ev_lst (ev_var rfl hL) il.ok (by omega) il.self) (ev_var rfl hL) (shaped_M _) (shaped_M _))) fun _ => et_test (ev_notN (ev_unl (ev_var rfl hM8) (ev_var rfl hL) okM il.ok (by omega) (by omega) (by have : M.length * L.length ≤ 8 * 8 := Nat.mul_le_mul lM (by omega); omega) (IsUnl.of_sm il.sm)))) (by rw [eqv_self (shaped_M _)]; rfl)) (fun z => by cases z) fun _ H9 e9 => ?_
      have ta9 := (le_T (T := t) (cs := cs) e9).inv ta8
      have hM9 := hM8.to e9.tup
      have hL9 := hL.to e9.tup
      refine n_set (r_call2 ⟨_, rfl, _, rfl, t, cs, v1, M, rfl, ta9, hM9, okM, by omega, fun v3 H10 W l10 okW lW smW hW => ?_⟩)
      have ta10 := l10.inv ta9
      have hM10 := hM9.to l10.tup
      have hL10 := hL9.to l10.tup
      refine s_when (f := f0) (b := false) (EvT.is (et_or (et_test (ev_neD (ev_lst (ev_var rfl hW) okW (by omega) (il.of smW)) (ev_var rfl hL10) (shaped_M _) (shaped_M _))) fun _ => et_not (et_B (ev_call (d := .bool true) (ea_cons (ev_var rfl hM10) (ea_cons (ev_var rfl hW) ea_nil)) (fun H1 vs e hv Q r => ⟨M, W, hv, okM, okW, by omega, by omega, by have : M.length * W.length ≤ 8 * 16 := Nat.mul_le_mul lM (by omega); omega, r⟩) f0_same))) (by rw [eqv_self (shaped_M _)]; rfl)) (fun z => by cases z) fun _ H11 e11 => ?_
      have ta11 := (le_T (T := t) (cs := cs) e11).inv ta10
      refine n_set (r_call1 ⟨_, rfl, t, cs, rfl, ta11, fun v4 H12 M2 l12 okM2 lM2 hM2 => ?_⟩)
      have ta12 := l12.inv ta11
      have hM12 := (hM10.to e11.tup).to l12.tup
      have hW12 := (hW.to e11.tup).to l12.tup
      have hL12 := (hL10.to e11.tup).to l12.tup
      refine s_if (f := f0) (b := false) (EvT.is (et_or (et_not (et_B (ev_call (d := .bool true) (ea_cons (ev_var rfl hM12) (ea_cons (ev_var rfl hM2) ea_nil)) (fun H1 vs e hv Q r => ⟨M, M2, hv, okM, okM2, by omega, by omega, by have : M.length * M2.length ≤ 8 * 8 := Nat.mul_le_mul lM lM2; omega, r⟩) f0_same))) fun _ =>
        et_or (et_not (et_B (ev_call (d := .bool true) (ea_cons (ev_var rfl hW12) (ea_cons (ev_var rfl hM2) ea_nil)) (fun H1 vs e hv Q r => ⟨W, M2, hv, okW, okM2, by omega, by omega, by have : W.length * M2.length ≤ 16 * 8 := Nat.mul_le_mul (by omega) lM2; omega, r⟩) f0_same))) fun _ =>
        et_not (et_B (ev_call (d := .bool true) (ea_cons (ev_var rfl hL12) (ea_cons (ev_var rfl hM2) ea_nil)) (fun H1 vs e hv Q r => ⟨L, M2, hv, il.ok, okM2, by omega, by omega, by have : L.length * M2.length ≤ 8 * 8 := Nat.mul_le_mul (by omega) lM2; omega, r⟩) f0_same))) rfl) (fun z => by cases z) fun _ H13 e13 => ?_
      exact ⟨_, _, _, _, _, rfl, (le_T (T := t) (cs := cs) e13).inv ta12⟩
    · obtain ⟨x3, x4, x5, x6, x7, rfl, ta5⟩ := h
      dsimp only
      refine n_set (r_call1 (r_call2 ⟨_, rfl, t, cs, rfl, ta5, fun v1 H6 gs l6 lg g8 hgs => ?_⟩))
      refine ⟨gs, .cons hgs .nil, by omega, g8, fun v2 H7 L s7 il lL hL => ?_⟩
      have ta7 := (same_T (T := t) (cs := cs) s7).inv (l6.inv ta5)
      refine n_set (r_call1 (r_call2 ⟨_, rfl, t, cs, rfl, ta7, fun v3 H8 gs2 l8 lg2 g82 hgs2 => ?_⟩))
      refine ⟨gs2, .cons hgs2 .nil, by omega, g82, fun v4 H9 L2 s9 il2 lL2 hL2 => ?_⟩
      have hL9 : Dt H9 v2 (.tuple (L.map eRow)) := (hL.to l8.tup).to (same_tup s9)
      have hL29 : Dt H9 v4 (.tuple (L2.map eRow)) := hL2
      refine s_when (f := f0) (b := decide ((L.length : Int) * (L2.length : Int) > 600)) ((et_test (ev_ib (ev_ic (ev_lenT (ev_var rfl hL9)) (ev_lenT (ev_var rfl hL29)) (.inl ⟨by rw [List.length_map]; omega, by rw [List.length_map]; omega⟩)) ev_int)).is (by rw [List.length_map, List.length_map])) (fun hb H10 e10 => ?_) fun hb H10 e10 => ?_
      · refine s_ret (f := f0) (d := .bool true) (EvD.is (ev_eqD (ev_lst (ev_var rfl (hL9.to e10.tup)) il.ok (by omega) il) (ev_var rfl (hL9.to e10.tup)) (shaped_M L) (shaped_M L)) (by show PyData.bool (PyData.eqv (eM L) (eM L)) = _; rw [eqv_self (shaped_M _)])) fun r H11 e11 hr => ?_
        obtain rfl := hr.bl_eq
        exact q H11
      · have hle : L.length * L2.length ≤ 600 := by
          have h1 : ¬ ((L.length : Int) * (L2.length : Int) > 600) := of_decide_eq_false hb
          have h2 : (L.length : Int) * (L2.length : Int) = ((L.length * L2.length : Nat) : Int) := by push_cast; rfl
          rw [h2] at h1
          omega
        refine s_ret (f := f0) (d := .bool true) (EvD.is (ev_and (ev_eqD (ev_lst (ev_var rfl (hL9.to e10.tup)) il.ok (by omega) il) (ev_var rfl (hL9.to e10.tup)) (shaped_M L) (shaped_M L)) fun _ => ev_call (d := .bool true) (ea_cons (ev_var rfl (hL9.to e10.tup)) (ea_cons (ev_var rfl (hL29.to e10.tup)) ea_nil)) (fun H1 vs e hv Q r => ⟨L, L2, hv, il.ok, il2.ok, by omega, by omega, by omega, r⟩) f0_same) (by show PyData.bool (PyData.eqv (eM L) (eM L) && true) = _; rw [eqv_self (shaped_M _)]; rfl)) fun r H11 e11 hr => ?_
        obtain rfl := hr.bl_eq
        exact q H11
  · -- (n > 12 or pick == 0) and not counters_right
    have cr : ∀ H', TapeAt H' t cs → ∀ {σ : L2.St}, σ[1]? = some (some (.ref t)) → σ[2]? = some (some (.int (n : Int))) → tNot (tB (tCall sp_counters [] E0 (tCons (tVar 1) (tCons (tVar 2) tNil)))) σ H' QT := fun H' ta' σ k1 k2 =>
      r_not (r_tB (r_call2 ⟨_, k1, _, k2, t, cs, n, rfl, ta', n400, fun H'' l => ⟨true, rfl, hQ H'' (l.inv ta')⟩⟩))
    refine (ev_ib (f := f0) (F := fun i j => decide (i > j)) (ev_var rfl (.int (n : Int))) ev_int) H3 (Le.refl _) _ fun b1 H4 e4 hb1 => ?_
    obtain rfl := hb1.bl_eq
    have ta4 := (le_T (T := t) (cs := cs) e4).inv ta3
    refine ⟨_, rfl, ?_⟩
    cases decide ((n : Int) > 12) with
    | true => exact iteT (iteT (cr H4 ta4 rfl rfl))
    | false =>
      refine iteF ?_
      refine r_test (r_op (r_pick rfl ta4 ev_int (by decide) (by decide) fun z H5 _ e5 => r_tc (req_int ⟨_, rfl, ?_⟩)))
      have ta5 := e5.inv ta4
      cases decide ((z : Int) = 0) with
      | true => exact iteT (cr H5 ta5 rfl rfl)
      | false => exact iteF (hQ H5 ta5)
end
end K13
namespace K13
open PySem PySem.Spec PyProof.Rows L2
def d_is_integer : He.DefD := ⟨("is_integer", none), "is_integer", "is_integer", defArgs s_is_integer, defBody s_is_integer, defScope s_is_integer, [], []⟩
def d_is_flag : He.DefD := ⟨("is_flag", none), "is_flag", "is_flag", defArgs s_is_flag, defBody s_is_flag, defScope s_is_flag, [], []⟩
def d_is_within : He.DefD := ⟨("is_within", none), "is_within", "is_within", defArgs s_is_within, defBody s_is_within, defScope s_is_within, [], []⟩
def d_is_listed : He.DefD := ⟨("is_listed", none), "is_listed", "is_listed", defArgs s_is_listed, defBody s_is_listed, defScope s_is_listed, [], []⟩
def d_is_pair : He.DefD := ⟨("is_pair", none), "is_pair", "is_pair", defArgs s_is_pair, defBody s_is_pair, defScope s_is_pair, [], []⟩
def d_is_amount : He.DefD := ⟨("is_amount", none), "is_amount", "is_amount", defArgs s_is_amount, defBody s_is_amount, defScope s_is_amount, [], []⟩
def d_is_gate : He.DefD := ⟨("is_gate", none), "is_gate", "is_gate", defArgs s_is_gate, defBody s_is_gate, defScope s_is_gate, [], []⟩
def d_is_row_of : He.DefD := ⟨("is_row_of", none), "is_row_of", "is_row_of", defArgs s_is_row_of, defBody s_is_row_of, defScope s_is_row_of, [], []⟩
def d_is_told_row : He.DefD := ⟨("is_told_row", none), "is_told_row", "is_told_row", defArgs s_is_told_row, defBody s_is_told_row, defScope s_is_told_row, [], []⟩
def d_check_row : He.DefD := ⟨("check_row", none), "check_row", "check_row", defArgs s_check_row, defBody s_check_row, defScope s_check_row, [], []⟩
def d_late_by : He.DefD := ⟨("late_by", none), "late_by", "late_by", defArgs s_late_by, defBody s_late_by, defScope s_late_by, [], []⟩
def d_sums_of : He.DefD := ⟨("sums_of", none), "sums_of", "sums_of", defArgs s_sums_of, defBody s_sums_of, defScope s_sums_of, [], []⟩
def d_Climb_init : He.DefD := ⟨("Climb", some "__init__"), "__init__", "Climb.__init__", defArgs s_Climb_init, defBody s_Climb_init, defScope s_Climb_init, [], []⟩
def d_Climb_note : He.DefD := ⟨("Climb", some "note"), "note", "Climb.note", defArgs s_Climb_note, defBody s_Climb_note, defScope s_Climb_note, [], []⟩
def d_Climb_go_to : He.DefD := ⟨("Climb", some "go_to"), "go_to", "Climb.go_to", defArgs s_Climb_go_to, defBody s_Climb_go_to, defScope s_Climb_go_to, [], []⟩
def d_climb_of : He.DefD := ⟨("climb_of", none), "climb_of", "climb_of", defArgs s_climb_of, defBody s_climb_of, defScope s_climb_of, [], []⟩
def d_ladder_of : He.DefD := ⟨("ladder_of", none), "ladder_of", "ladder_of", defArgs s_ladder_of, defBody s_ladder_of, defScope s_ladder_of, [], []⟩
def d_shape_of : He.DefD := ⟨("shape_of", none), "shape_of", "shape_of", defArgs s_shape_of, defBody s_shape_of, defScope s_shape_of, [], []⟩
def d_gate_to : He.DefD := ⟨("gate_to", none), "gate_to", "gate_to", defArgs s_gate_to, defBody s_gate_to, defScope s_gate_to, [], []⟩
def d_turnings : He.DefD := ⟨("turnings", none), "turnings", "turnings", defArgs s_turnings, defBody s_turnings, defScope s_turnings, [], []⟩
def d_normal_of : He.DefD := ⟨("normal_of", none), "normal_of", "normal_of", defArgs s_normal_of, defBody s_normal_of, defScope s_normal_of, [], []⟩
def d_looks_back : He.DefD := ⟨("looks_back", none), "looks_back", "looks_back", defArgs s_looks_back, defBody s_looks_back, defScope s_looks_back, [], []⟩
def d_is_side : He.DefD := ⟨("is_side", none), "is_side", "is_side", defArgs s_is_side, defBody s_is_side, defScope s_is_side, [], []⟩
def d_is_told_machine : He.DefD := ⟨("is_told_machine", none), "is_told_machine", "is_told_machine", defArgs s_is_told_machine, defBody s_is_told_machine, defScope s_is_told_machine, [], []⟩
def d_is_machine : He.DefD := ⟨("is_machine", none), "is_machine", "is_machine", defArgs s_is_machine, defBody s_is_machine, defScope s_is_machine, [], []⟩
def d_check_machine : He.DefD := ⟨("check_machine", none), "check_machine", "check_machine", defArgs s_check_machine, defBody s_check_machine, defScope s_check_machine, [], []⟩
def d_shown_by : He.DefD := ⟨("shown_by", none), "shown_by", "shown_by", defArgs s_shown_by, defBody s_shown_by, defScope s_shown_by, [], []⟩
def d_at_first : He.DefD := ⟨("at_first", none), "at_first", "at_first", defArgs s_at_first, defBody s_at_first, defScope s_at_first, [], []⟩
def d_gate_step : He.DefD := ⟨("gate_step", none), "gate_step", "gate_step", defArgs s_gate_step, defBody s_gate_step, defScope s_gate_step, [], []⟩
def d_row_step : He.DefD := ⟨("row_step", none), "row_step", "row_step", defArgs s_row_step, defBody s_row_step, defScope s_row_step, [], []⟩
def d_wide_machine : He.DefD := ⟨("wide_machine", none), "wide_machine", "wide_machine", defArgs s_wide_machine, defBody s_wide_machine, defScope s_wide_machine, [], []⟩
def d_numbered : He.DefD := ⟨("numbered", none), "numbered", "numbered", defArgs s_numbered, defBody s_numbered, defScope s_numbered, [], []⟩
def d_kinds_of : He.DefD := ⟨("kinds_of", none), "kinds_of", "kinds_of", defArgs s_kinds_of, defBody s_kinds_of, defScope s_kinds_of, [], []⟩
def d_least_of : He.DefD := ⟨("least_of", none), "least_of", "least_of", defArgs s_least_of, defBody s_least_of, defScope s_least_of, [], []⟩
def d_check_few : He.DefD := ⟨("check_few", none), "check_few", "check_few", defArgs s_check_few, defBody s_check_few, defScope s_check_few, [], []⟩
def d_machine_of : He.DefD := ⟨("machine_of", none), "machine_of", "machine_of", defArgs s_machine_of, defBody s_machine_of, defScope s_machine_of, [], []⟩
def d_machine : He.DefD := ⟨("machine", none), "machine", "machine", defArgs s_machine, defBody s_machine, defScope s_machine, [], []⟩
def d_least : He.DefD := ⟨("least", none), "least", "least", defArgs s_least, defBody s_least, defScope s_least, [], []⟩
def d_flags_to : He.DefD := ⟨("flags_to", none), "flags_to", "flags_to", defArgs s_flags_to, defBody s_flags_to, defScope s_flags_to, [], []⟩
def d_unlike_flags : He.DefD := ⟨("unlike_flags", none), "unlike_flags", "unlike_flags", defArgs s_unlike_flags, defBody s_unlike_flags, defScope s_unlike_flags, [], []⟩
def d_Ltape : He.DefD := ⟨("_law_tape", none), "_law_tape", "_law_tape", defArgs s_Ltape, defBody s_Ltape, defScope s_Ltape, [], []⟩
def d_Lpick : He.DefD := ⟨("_law_pick", none), "_law_pick", "_law_pick", defArgs s_Lpick, defBody s_Lpick, defScope s_Lpick, [], []⟩
def d_Llive_row : He.DefD := ⟨("_law_live_row", none), "_law_live_row", "_law_live_row", defArgs s_Llive_row, defBody s_Llive_row, defScope s_Llive_row, [], []⟩
def d_Lis_machine : He.DefD := ⟨("_law_is_machine", none), "_law_is_machine", "_law_is_machine", defArgs s_Lis_machine, defBody s_Lis_machine, defScope s_Lis_machine, [], []⟩
def d_Lkinds : He.DefD := ⟨("_law_kinds", none), "_law_kinds", "_law_kinds", defArgs s_Lkinds, defBody s_Lkinds, defScope s_Lkinds, [], []⟩
def d_Lcome_to : He.DefD := ⟨("_law_come_to", none), "_law_come_to", "_law_come_to", defArgs s_Lcome_to, defBody s_Lcome_to, defScope s_Lcome_to, [], []⟩
def d_Lis_least : He.DefD := ⟨("_law_is_least", none), "_law_is_least", "_law_is_least", defArgs s_Lis_least, defBody s_Lis_least, defScope s_Lis_least, [], []⟩
def d_Lmachine : He.DefD := ⟨("_law_machine", none), "_law_machine", "_law_machine", defArgs s_Lmachine, defBody s_Lmachine, defScope s_Lmachine, [], []⟩
def d_Lwider : He.DefD := ⟨("_law_wider", none), "_law_wider", "_law_wider", defArgs s_Lwider, defBody s_Lwider, defScope s_Lwider, [], []⟩
def d_Lunlike : He.DefD := ⟨("_law_unlike", none), "_law_unlike", "_law_unlike", defArgs s_Lunlike, defBody s_Lunlike, defScope s_Lunlike, [], []⟩
def d_Lparted_right : He.DefD := ⟨("_law_parted_right", none), "_law_parted_right", "_law_parted_right", defArgs s_Lparted_right, defBody s_Lparted_right, defScope s_Lparted_right, [], []⟩
def d_Lshown : He.DefD := ⟨("_law_shown", none), "_law_shown", "_law_shown", defArgs s_Lshown, defBody s_Lshown, defScope s_Lshown, [], []⟩
def d_Lcounter : He.DefD := ⟨("_law_counter", none), "_law_counter", "_law_counter", defArgs s_Lcounter, defBody s_Lcounter, defScope s_Lcounter, [], []⟩
def d_Lcounters_right : He.DefD := ⟨("_law_counters_right", none), "_law_counters_right", "_law_counters_right", defArgs s_Lcounters_right, defBody s_Lcounters_right, defScope s_Lcounters_right, [], []⟩
def d_law : He.DefD := ⟨("law", none), "law", "law", defArgs s_law, defBody s_law, defScope s_law, [], []⟩
def fn : List He.DefD := [d_is_integer, d_is_flag, d_is_within, d_is_listed, d_is_pair, d_is_amount, d_is_gate, d_is_row_of, d_is_told_row, d_check_row, d_late_by, d_sums_of, d_Climb_init, d_Climb_note, d_Climb_go_to, d_climb_of, d_ladder_of, d_shape_of, d_gate_to, d_turnings, d_normal_of, d_looks_back, d_is_side, d_is_told_machine, d_is_machine, d_check_machine, d_shown_by, d_at_first, d_gate_step, d_row_step, d_wide_machine, d_numbered, d_kinds_of, d_least_of, d_check_few, d_machine_of, d_machine, d_least, d_flags_to, d_unlike_flags, d_Ltape, d_Lpick, d_Llive_row, d_Lis_machine, d_Lkinds, d_Lcome_to, d_Lis_least, d_Lmachine, d_Lwider, d_Lunlike, d_Lparted_right, d_Lshown, d_Lcounter, d_Lcounters_right, d_law]
def fa : List He.Fa := [.glo "is_integer", .glo "is_flag", .glo "is_within", .glo "is_listed", .glo "is_pair", .glo "is_amount", .glo "is_gate", .glo "is_row_of", .glo "is_told_row", .glo "check_row", .glo "late_by", .glo "sums_of", .glo "climb_of", .glo "ladder_of", .glo "shape_of", .glo "gate_to", .glo "turnings", .glo "normal_of", .glo "looks_back", .glo "is_side", .glo "is_told_machine", .glo "is_machine", .glo "check_machine", .glo "shown_by", .glo "at_first", .glo "gate_step", .glo "row_step", .glo "wide_machine", .glo "numbered", .glo "kinds_of", .glo "least_of", .glo "check_few", .glo "machine_of", .glo "machine", .glo "least", .glo "flags_to", .glo "unlike_flags", .glo "_law_tape", .glo "_law_pick", .glo "_law_live_row", .glo "_law_is_machine", .glo "_law_kinds", .glo "_law_come_to", .glo "_law_is_least", .glo "_law_machine", .glo "_law_wider", .glo "_law_unlike", .glo "_law_parted_right", .glo "_law_shown", .glo "_law_counter", .glo "_law_counters_right", .glo "law", .glo "Climb", .free "isinstance", .free "int", .free "bool", .free "list", .free "tuple", .free "len", .free "str", .free "all", .free "any", .free "sum", .free "min", .free "max", .free "zip", .free "enumerate", .free "range", .free "sorted", .free "set", .int "MOST_DEEP" 6, .int "MOST_LATE" 12, .int "MOST_FLAGS" 2000, .cls "Climb", .noat "Climb" "lead", .noat "Climb" "high", .noat "Climb" "deep", .noat "Climb" "runs", .meth "Climb" "note", .meth "Climb" "go_to", .mkr "Climb"]
def names : List PySem.Str := (["EdgeError", "NoRow", "NotLive", "NoMachine", "NoFlags", "TooMany", "is_integer", "is_flag", "is_within", "is_listed", "is_pair", "MOST_DEEP", "is_amount", "is_gate", "is_block"] : List PySem.Str) ++ (["is_row_of", "is_told_row", "check_row", "late_by", "sums_of", "Climb", "climb_of", "ladder_of", "shape_of", "gate_to", "turnings", "normal_of", "looks_back", "MOST_LATE", "MOST_FLAGS"] : List PySem.Str) ++ (["is_side", "is_told_machine", "is_machine", "check_machine", "shown_by", "at_first", "gate_step", "row_step", "wide_machine", "numbered", "kinds_of", "least_of", "check_few", "machine_of", "machine"] : List PySem.Str) ++ (["least", "flags_to", "unlike_flags", "_law_tape", "_law_pick", "_law_live_row", "_law_is_machine", "_law_kinds", "_law_come_to", "_law_is_least", "_law_machine", "_law_wider", "_law_unlike", "_law_parted_right", "_law_shown"] : List PySem.Str) ++ (["_law_counter", "_law_counters_right"] : List PySem.Str)
abbrev R : PySem.W.OpenRow := PySem.W.OpenLaw.row PySem.Challenge.rw_lateedges_k13_whole_least_machines
abbrev hk : PySem.W.Hook := He.hookD 5 fa fn
def ob (s : PySem.W.SharedT) : He.AlD := He.obsDG 5 fa fn (HandSHeadRun.getT s)
theorem ob_eq (s : PySem.W.SharedT) : ob s = hk.obs s.abs := He.obsDG_eq (HandSHeadRun.getT_eq s)
theorem run (w : World) : HandSHeadRun.RunEq R (PySem.W.view R.prog [70]) hk ob 20000 names w := by
  intro os
  kernel_rfl
end K13
/-! K13W: the facts of the head joined to the walk. -/
namespace K13
open PySem PySem.Spec PyProof.Rows L2 KM
section
variable {K : PySem.W.Frag} {h : Heap} {mg : Str → Option Value}
theorem top_of (X : K.In h) (G : h.Ns mainGlobals mg) (c : He.SaysD fa fn K) : Top mg where
  isinstance_ := He.free_ok X G (c.fact 53 (f := .free "isinstance") rfl)
  int_ := He.free_ok X G (c.fact 54 (f := .free "int") rfl)
  bool_ := He.free_ok X G (c.fact 55 (f := .free "bool") rfl)
  list_ := He.free_ok X G (c.fact 56 (f := .free "list") rfl)
  tuple_ := He.free_ok X G (c.fact 57 (f := .free "tuple") rfl)
  len_ := He.free_ok X G (c.fact 58 (f := .free "len") rfl)
  str_ := He.free_ok X G (c.fact 59 (f := .free "str") rfl)
  all_ := He.free_ok X G (c.fact 60 (f := .free "all") rfl)
  any_ := He.free_ok X G (c.fact 61 (f := .free "any") rfl)
  sum_ := He.free_ok X G (c.fact 62 (f := .free "sum") rfl)
  min_ := He.free_ok X G (c.fact 63 (f := .free "min") rfl)
  max_ := He.free_ok X G (c.fact 64 (f := .free "max") rfl)
  zip_ := He.free_ok X G (c.fact 65 (f := .free "zip") rfl)
  enumerate_ := He.free_ok X G (c.fact 66 (f := .free "enumerate") rfl)
  range_ := He.free_ok X G (c.fact 67 (f := .free "range") rfl)
  sorted_ := He.free_ok X G (c.fact 68 (f := .free "sorted") rfl)
  set_ := He.free_ok X G (c.fact 69 (f := .free "set") rfl)
  MOST_DEEP := He.int_ok X G (c.fact 70 (f := .int "MOST_DEEP" 6) rfl)
  MOST_LATE := He.int_ok X G (c.fact 71 (f := .int "MOST_LATE" 12) rfl)
  MOST_FLAGS := He.int_ok X G (c.fact 72 (f := .int "MOST_FLAGS" 2000) rfl)
theorem climb_of_head (X : K.In h) (G : h.Ns mainGlobals mg) (c : He.SaysD fa fn K) : ClsAt K mg "Climb" (He.ga K "Climb") clNames where
  cl := He.cls_ok (c.fact 73 (f := .cls "Climb") rfl)
  gl := He.glo_ok X G (c.fact 52 (f := .glo "Climb") rfl)
  na := fun f hf => by
    rcases List.mem_cons.mp hf with rfl | hf
    · exact He.noat_ok (c.fact 74 (f := .noat "Climb" "lead") rfl)
    rcases List.mem_cons.mp hf with rfl | hf
    · exact He.noat_ok (c.fact 75 (f := .noat "Climb" "high") rfl)
    rcases List.mem_cons.mp hf with rfl | hf
    · exact He.noat_ok (c.fact 76 (f := .noat "Climb" "deep") rfl)
    rcases List.mem_cons.mp hf with rfl | hf
    · exact He.noat_ok (c.fact 77 (f := .noat "Climb" "runs") rfl)
    · cases hf
theorem at_Climb_note (c : He.SaysD fa fn K) : AtM K (He.ga K "Climb") "note" "Climb.note" s_Climb_note ["self", "word", "many"] := by
  obtain ⟨fd, F⟩ := c.def_ 13 (d := d_Climb_note) rfl
  exact ⟨_, fd, F, He.meth_ok (c.fact 78 (f := .meth "Climb" "note") rfl), F.bindsN fun _ _ _ _ _ _ us hl => match us, hl with | [_, _, _], _ => rfl⟩
theorem at_Climb_go_to (c : He.SaysD fa fn K) : AtM K (He.ga K "Climb") "go_to" "Climb.go_to" s_Climb_go_to ["self", "lead"] := by
  obtain ⟨fd, F⟩ := c.def_ 14 (d := d_Climb_go_to) rfl
  exact ⟨_, fd, F, He.meth_ok (c.fact 79 (f := .meth "Climb" "go_to") rfl), F.bindsN fun _ _ _ _ _ _ us hl => match us, hl with | [_, _], _ => rfl⟩
theorem at_Climb_init (c : He.SaysD fa fn K) : AtI K (He.ga K "Climb") "__init__" "Climb.__init__" s_Climb_init ["self"] := by
  obtain ⟨fd, F⟩ := c.def_ 12 (d := d_Climb_init) rfl
  exact ⟨_, fd, F, He.mkr_ok (c.fact 80 (f := .mkr "Climb") rfl), F.bindsN fun _ _ _ _ _ _ us hl => match us, hl with | [_], _ => rfl⟩
theorem at_Ltape (X : K.In h) (G : h.Ns mainGlobals mg) (c : He.SaysD fa fn K) : At K mg "_law_tape" s_Ltape ["_law_script"] := by
  obtain ⟨fd, F⟩ := c.def_ 40 (d := d_Ltape) rfl
  exact ⟨_, fd, F, He.glo_ok X G (c.fact 37 (f := .glo "_law_tape") rfl), F.bindsN fun _ _ _ _ _ _ us hl => match us, hl with | [_], _ => rfl⟩
theorem at_Lpick (X : K.In h) (G : h.Ns mainGlobals mg) (c : He.SaysD fa fn K) : At K mg "_law_pick" s_Lpick ["_law_tape_here", "_law_many"] := by
  obtain ⟨fd, F⟩ := c.def_ 41 (d := d_Lpick) rfl
  exact ⟨_, fd, F, He.glo_ok X G (c.fact 38 (f := .glo "_law_pick") rfl), F.bindsN fun _ _ _ _ _ _ us hl => match us, hl with | [_, _], _ => rfl⟩
theorem at_Lcounter (X : K.In h) (G : h.Ns mainGlobals mg) (c : He.SaysD fa fn K) : At K mg "_law_counter" s_Lcounter ["_law_n"] := by
  obtain ⟨fd, F⟩ := c.def_ 52 (d := d_Lcounter) rfl
  exact ⟨_, fd, F, He.glo_ok X G (c.fact 49 (f := .glo "_law_counter") rfl), F.bindsN fun _ _ _ _ _ _ us hl => match us, hl with | [_], _ => rfl⟩
theorem at_is_pair (X : K.In h) (G : h.Ns mainGlobals mg) (c : He.SaysD fa fn K) : At K mg "is_pair" s_is_pair ["thing"] := by
  obtain ⟨fd, F⟩ := c.def_ 4 (d := d_is_pair) rfl
  exact ⟨_, fd, F, He.glo_ok X G (c.fact 4 (f := .glo "is_pair") rfl), F.bindsN fun _ _ _ _ _ _ us hl => match us, hl with | [_], _ => rfl⟩
theorem at_is_flag (X : K.In h) (G : h.Ns mainGlobals mg) (c : He.SaysD fa fn K) : At K mg "is_flag" s_is_flag ["thing"] := by
  obtain ⟨fd, F⟩ := c.def_ 1 (d := d_is_flag) rfl
  exact ⟨_, fd, F, He.glo_ok X G (c.fact 1 (f := .glo "is_flag") rfl), F.bindsN fun _ _ _ _ _ _ us hl => match us, hl with | [_], _ => rfl⟩
theorem at_is_integer (X : K.In h) (G : h.Ns mainGlobals mg) (c : He.SaysD fa fn K) : At K mg "is_integer" s_is_integer ["thing"] := by
  obtain ⟨fd, F⟩ := c.def_ 0 (d := d_is_integer) rfl
  exact ⟨_, fd, F, He.glo_ok X G (c.fact 0 (f := .glo "is_integer") rfl), F.bindsN fun _ _ _ _ _ _ us hl => match us, hl with | [_], _ => rfl⟩
theorem at_is_within (X : K.In h) (G : h.Ns mainGlobals mg) (c : He.SaysD fa fn K) : At K mg "is_within" s_is_within ["thing", "least", "most"] := by
  obtain ⟨fd, F⟩ := c.def_ 2 (d := d_is_within) rfl
  exact ⟨_, fd, F, He.glo_ok X G (c.fact 2 (f := .glo "is_within") rfl), F.bindsN fun _ _ _ _ _ _ us hl => match us, hl with | [_, _, _], _ => rfl⟩
theorem at_is_side (X : K.In h) (G : h.Ns mainGlobals mg) (c : He.SaysD fa fn K) : At K mg "is_side" s_is_side ["thing", "many"] := by
  obtain ⟨fd, F⟩ := c.def_ 22 (d := d_is_side) rfl
  exact ⟨_, fd, F, He.glo_ok X G (c.fact 19 (f := .glo "is_side") rfl), F.bindsN fun _ _ _ _ _ _ us hl => match us, hl with | [_, _], _ => rfl⟩
theorem at_is_told_machine (X : K.In h) (G : h.Ns mainGlobals mg) (c : He.SaysD fa fn K) : At K mg "is_told_machine" s_is_told_machine ["thing"] := by
  obtain ⟨fd, F⟩ := c.def_ 23 (d := d_is_told_machine) rfl
  exact ⟨_, fd, F, He.glo_ok X G (c.fact 20 (f := .glo "is_told_machine") rfl), F.bindsN fun _ _ _ _ _ _ us hl => match us, hl with | [_], _ => rfl⟩
theorem at_check_machine (X : K.In h) (G : h.Ns mainGlobals mg) (c : He.SaysD fa fn K) : At K mg "check_machine" s_check_machine ["thing"] := by
  obtain ⟨fd, F⟩ := c.def_ 25 (d := d_check_machine) rfl
  exact ⟨_, fd, F, He.glo_ok X G (c.fact 22 (f := .glo "check_machine") rfl), F.bindsN fun _ _ _ _ _ _ us hl => match us, hl with | [_], _ => rfl⟩
theorem at_numbered (X : K.In h) (G : h.Ns mainGlobals mg) (c : He.SaysD fa fn K) : At K mg "numbered" s_numbered ["signs"] := by
  obtain ⟨fd, F⟩ := c.def_ 31 (d := d_numbered) rfl
  exact ⟨_, fd, F, He.glo_ok X G (c.fact 28 (f := .glo "numbered") rfl), F.bindsN fun _ _ _ _ _ _ us hl => match us, hl with | [_], _ => rfl⟩
theorem at_kinds_of (X : K.In h) (G : h.Ns mainGlobals mg) (c : He.SaysD fa fn K) : At K mg "kinds_of" s_kinds_of ["told"] := by
  obtain ⟨fd, F⟩ := c.def_ 32 (d := d_kinds_of) rfl
  exact ⟨_, fd, F, He.glo_ok X G (c.fact 29 (f := .glo "kinds_of") rfl), F.bindsN fun _ _ _ _ _ _ us hl => match us, hl with | [_], _ => rfl⟩
theorem at_least_of (X : K.In h) (G : h.Ns mainGlobals mg) (c : He.SaysD fa fn K) : At K mg "least_of" s_least_of ["told"] := by
  obtain ⟨fd, F⟩ := c.def_ 33 (d := d_least_of) rfl
  exact ⟨_, fd, F, He.glo_ok X G (c.fact 30 (f := .glo "least_of") rfl), F.bindsN fun _ _ _ _ _ _ us hl => match us, hl with | [_], _ => rfl⟩
theorem at_least (X : K.In h) (G : h.Ns mainGlobals mg) (c : He.SaysD fa fn K) : At K mg "least" s_least ["told"] := by
  obtain ⟨fd, F⟩ := c.def_ 37 (d := d_least) rfl
  exact ⟨_, fd, F, He.glo_ok X G (c.fact 34 (f := .glo "least") rfl), F.bindsN fun _ _ _ _ _ _ us hl => match us, hl with | [_], _ => rfl⟩
theorem at_Lwider (X : K.In h) (G : h.Ns mainGlobals mg) (c : He.SaysD fa fn K) : At K mg "_law_wider" s_Lwider ["_law_tape_here", "_law_made"] := by
  obtain ⟨fd, F⟩ := c.def_ 48 (d := d_Lwider) rfl
  exact ⟨_, fd, F, He.glo_ok X G (c.fact 45 (f := .glo "_law_wider") rfl), F.bindsN fun _ _ _ _ _ _ us hl => match us, hl with | [_, _], _ => rfl⟩
theorem at_flags_to (X : K.In h) (G : h.Ns mainGlobals mg) (c : He.SaysD fa fn K) : At K mg "flags_to" s_flags_to ["came", "pair"] := by
  obtain ⟨fd, F⟩ := c.def_ 38 (d := d_flags_to) rfl
  exact ⟨_, fd, F, He.glo_ok X G (c.fact 35 (f := .glo "flags_to") rfl), F.bindsN fun _ _ _ _ _ _ us hl => match us, hl with | [_, _], _ => rfl⟩
theorem at_unlike_flags (X : K.In h) (G : h.Ns mainGlobals mg) (c : He.SaysD fa fn K) : At K mg "unlike_flags" s_unlike_flags ["one", "other"] := by
  obtain ⟨fd, F⟩ := c.def_ 39 (d := d_unlike_flags) rfl
  exact ⟨_, fd, F, He.glo_ok X G (c.fact 36 (f := .glo "unlike_flags") rfl), F.bindsN fun _ _ _ _ _ _ us hl => match us, hl with | [_, _], _ => rfl⟩
theorem at_is_listed (X : K.In h) (G : h.Ns mainGlobals mg) (c : He.SaysD fa fn K) : At K mg "is_listed" s_is_listed ["thing"] := by
  obtain ⟨fd, F⟩ := c.def_ 3 (d := d_is_listed) rfl
  exact ⟨_, fd, F, He.glo_ok X G (c.fact 3 (f := .glo "is_listed") rfl), F.bindsN fun _ _ _ _ _ _ us hl => match us, hl with | [_], _ => rfl⟩
theorem at_shown_by (X : K.In h) (G : h.Ns mainGlobals mg) (c : He.SaysD fa fn K) : At K mg "shown_by" s_shown_by ["told", "flags"] := by
  obtain ⟨fd, F⟩ := c.def_ 26 (d := d_shown_by) rfl
  exact ⟨_, fd, F, He.glo_ok X G (c.fact 23 (f := .glo "shown_by") rfl), F.bindsN fun _ _ _ _ _ _ us hl => match us, hl with | [_, _], _ => rfl⟩
theorem at_Lshown (X : K.In h) (G : h.Ns mainGlobals mg) (c : He.SaysD fa fn K) : At K mg "_law_shown" s_Lshown ["_law_made", "_law_flags"] := by
  obtain ⟨fd, F⟩ := c.def_ 51 (d := d_Lshown) rfl
  exact ⟨_, fd, F, He.glo_ok X G (c.fact 48 (f := .glo "_law_shown") rfl), F.bindsN fun _ _ _ _ _ _ us hl => match us, hl with | [_, _], _ => rfl⟩
theorem at_Lcounters_right (X : K.In h) (G : h.Ns mainGlobals mg) (c : He.SaysD fa fn K) : At K mg "_law_counters_right" s_Lcounters_right ["_law_tape_here", "_law_n"] := by
  obtain ⟨fd, F⟩ := c.def_ 53 (d := d_Lcounters_right) rfl
  exact ⟨_, fd, F, He.glo_ok X G (c.fact 50 (f := .glo "_law_counters_right") rfl), F.bindsN fun _ _ _ _ _ _ us hl => match us, hl with | [_, _], _ => rfl⟩
theorem at_Lmachine (X : K.In h) (G : h.Ns mainGlobals mg) (c : He.SaysD fa fn K) : At K mg "_law_machine" s_Lmachine ["_law_tape_here"] := by
  obtain ⟨fd, F⟩ := c.def_ 47 (d := d_Lmachine) rfl
  exact ⟨_, fd, F, He.glo_ok X G (c.fact 44 (f := .glo "_law_machine") rfl), F.bindsN fun _ _ _ _ _ _ us hl => match us, hl with | [_], _ => rfl⟩
theorem at_is_machine (X : K.In h) (G : h.Ns mainGlobals mg) (c : He.SaysD fa fn K) : At K mg "is_machine" s_is_machine ["thing"] := by
  obtain ⟨fd, F⟩ := c.def_ 24 (d := d_is_machine) rfl
  exact ⟨_, fd, F, He.glo_ok X G (c.fact 21 (f := .glo "is_machine") rfl), F.bindsN fun _ _ _ _ _ _ us hl => match us, hl with | [_], _ => rfl⟩
theorem at_Lis_machine (X : K.In h) (G : h.Ns mainGlobals mg) (c : He.SaysD fa fn K) : At K mg "_law_is_machine" s_Lis_machine ["_law_thing"] := by
  obtain ⟨fd, F⟩ := c.def_ 43 (d := d_Lis_machine) rfl
  exact ⟨_, fd, F, He.glo_ok X G (c.fact 40 (f := .glo "_law_is_machine") rfl), F.bindsN fun _ _ _ _ _ _ us hl => match us, hl with | [_], _ => rfl⟩
theorem at_Lcome_to (X : K.In h) (G : h.Ns mainGlobals mg) (c : He.SaysD fa fn K) : At K mg "_law_come_to" s_Lcome_to ["_law_made"] := by
  obtain ⟨fd, F⟩ := c.def_ 45 (d := d_Lcome_to) rfl
  exact ⟨_, fd, F, He.glo_ok X G (c.fact 42 (f := .glo "_law_come_to") rfl), F.bindsN fun _ _ _ _ _ _ us hl => match us, hl with | [_], _ => rfl⟩
theorem at_Lkinds (X : K.In h) (G : h.Ns mainGlobals mg) (c : He.SaysD fa fn K) : At K mg "_law_kinds" s_Lkinds ["_law_made"] := by
  obtain ⟨fd, F⟩ := c.def_ 44 (d := d_Lkinds) rfl
  exact ⟨_, fd, F, He.glo_ok X G (c.fact 41 (f := .glo "_law_kinds") rfl), F.bindsN fun _ _ _ _ _ _ us hl => match us, hl with | [_], _ => rfl⟩
theorem at_Lis_least (X : K.In h) (G : h.Ns mainGlobals mg) (c : He.SaysD fa fn K) : At K mg "_law_is_least" s_Lis_least ["_law_made"] := by
  obtain ⟨fd, F⟩ := c.def_ 46 (d := d_Lis_least) rfl
  exact ⟨_, fd, F, He.glo_ok X G (c.fact 43 (f := .glo "_law_is_least") rfl), F.bindsN fun _ _ _ _ _ _ us hl => match us, hl with | [_], _ => rfl⟩
theorem at_Lunlike (X : K.In h) (G : h.Ns mainGlobals mg) (c : He.SaysD fa fn K) : At K mg "_law_unlike" s_Lunlike ["_law_one", "_law_other"] := by
  obtain ⟨fd, F⟩ := c.def_ 49 (d := d_Lunlike) rfl
  exact ⟨_, fd, F, He.glo_ok X G (c.fact 46 (f := .glo "_law_unlike") rfl), F.bindsN fun _ _ _ _ _ _ us hl => match us, hl with | [_, _], _ => rfl⟩
theorem at_Lparted_right (X : K.In h) (G : h.Ns mainGlobals mg) (c : He.SaysD fa fn K) : At K mg "_law_parted_right" s_Lparted_right ["_law_one", "_law_other"] := by
  obtain ⟨fd, F⟩ := c.def_ 50 (d := d_Lparted_right) rfl
  exact ⟨_, fd, F, He.glo_ok X G (c.fact 47 (f := .glo "_law_parted_right") rfl), F.bindsN fun _ _ _ _ _ _ us hl => match us, hl with | [_, _], _ => rfl⟩
theorem at_is_amount (X : K.In h) (G : h.Ns mainGlobals mg) (c : He.SaysD fa fn K) : At K mg "is_amount" s_is_amount ["thing"] := by
  obtain ⟨fd, F⟩ := c.def_ 5 (d := d_is_amount) rfl
  exact ⟨_, fd, F, He.glo_ok X G (c.fact 5 (f := .glo "is_amount") rfl), F.bindsN fun _ _ _ _ _ _ us hl => match us, hl with | [_], _ => rfl⟩
theorem at_is_gate (X : K.In h) (G : h.Ns mainGlobals mg) (c : He.SaysD fa fn K) : At K mg "is_gate" s_is_gate ["thing"] := by
  obtain ⟨fd, F⟩ := c.def_ 6 (d := d_is_gate) rfl
  exact ⟨_, fd, F, He.glo_ok X G (c.fact 6 (f := .glo "is_gate") rfl), F.bindsN fun _ _ _ _ _ _ us hl => match us, hl with | [_], _ => rfl⟩
theorem at_is_row_of (X : K.In h) (G : h.Ns mainGlobals mg) (c : He.SaysD fa fn K) : At K mg "is_row_of" s_is_row_of ["thing", "deep"] := by
  obtain ⟨fd, F⟩ := c.def_ 7 (d := d_is_row_of) rfl
  exact ⟨_, fd, F, He.glo_ok X G (c.fact 7 (f := .glo "is_row_of") rfl), F.bindsN fun _ _ _ _ _ _ us hl => match us, hl with | [_, _], _ => rfl⟩
theorem at_is_told_row (X : K.In h) (G : h.Ns mainGlobals mg) (c : He.SaysD fa fn K) : At K mg "is_told_row" s_is_told_row ["thing"] := by
  obtain ⟨fd, F⟩ := c.def_ 8 (d := d_is_told_row) rfl
  exact ⟨_, fd, F, He.glo_ok X G (c.fact 8 (f := .glo "is_told_row") rfl), F.bindsN fun _ _ _ _ _ _ us hl => match us, hl with | [_], _ => rfl⟩
theorem at_check_row (X : K.In h) (G : h.Ns mainGlobals mg) (c : He.SaysD fa fn K) : At K mg "check_row" s_check_row ["thing"] := by
  obtain ⟨fd, F⟩ := c.def_ 9 (d := d_check_row) rfl
  exact ⟨_, fd, F, He.glo_ok X G (c.fact 9 (f := .glo "check_row") rfl), F.bindsN fun _ _ _ _ _ _ us hl => match us, hl with | [_], _ => rfl⟩
theorem at_late_by (X : K.In h) (G : h.Ns mainGlobals mg) (c : He.SaysD fa fn K) : At K mg "late_by" s_late_by ["gate"] := by
  obtain ⟨fd, F⟩ := c.def_ 10 (d := d_late_by) rfl
  exact ⟨_, fd, F, He.glo_ok X G (c.fact 10 (f := .glo "late_by") rfl), F.bindsN fun _ _ _ _ _ _ us hl => match us, hl with | [_], _ => rfl⟩
theorem at_sums_of (X : K.In h) (G : h.Ns mainGlobals mg) (c : He.SaysD fa fn K) : At K mg "sums_of" s_sums_of ["row"] := by
  obtain ⟨fd, F⟩ := c.def_ 11 (d := d_sums_of) rfl
  exact ⟨_, fd, F, He.glo_ok X G (c.fact 11 (f := .glo "sums_of") rfl), F.bindsN fun _ _ _ _ _ _ us hl => match us, hl with | [_], _ => rfl⟩
theorem at_climb_of (X : K.In h) (G : h.Ns mainGlobals mg) (c : He.SaysD fa fn K) : At K mg "climb_of" s_climb_of ["row"] := by
  obtain ⟨fd, F⟩ := c.def_ 15 (d := d_climb_of) rfl
  exact ⟨_, fd, F, He.glo_ok X G (c.fact 12 (f := .glo "climb_of") rfl), F.bindsN fun _ _ _ _ _ _ us hl => match us, hl with | [_], _ => rfl⟩
theorem at_ladder_of (X : K.In h) (G : h.Ns mainGlobals mg) (c : He.SaysD fa fn K) : At K mg "ladder_of" s_ladder_of ["row"] := by
  obtain ⟨fd, F⟩ := c.def_ 16 (d := d_ladder_of) rfl
  exact ⟨_, fd, F, He.glo_ok X G (c.fact 13 (f := .glo "ladder_of") rfl), F.bindsN fun _ _ _ _ _ _ us hl => match us, hl with | [_], _ => rfl⟩
theorem at_shape_of (X : K.In h) (G : h.Ns mainGlobals mg) (c : He.SaysD fa fn K) : At K mg "shape_of" s_shape_of ["row"] := by
  obtain ⟨fd, F⟩ := c.def_ 17 (d := d_shape_of) rfl
  exact ⟨_, fd, F, He.glo_ok X G (c.fact 14 (f := .glo "shape_of") rfl), F.bindsN fun _ _ _ _ _ _ us hl => match us, hl with | [_], _ => rfl⟩
theorem at_turnings (X : K.In h) (G : h.Ns mainGlobals mg) (c : He.SaysD fa fn K) : At K mg "turnings" s_turnings ["told"] := by
  obtain ⟨fd, F⟩ := c.def_ 19 (d := d_turnings) rfl
  exact ⟨_, fd, F, He.glo_ok X G (c.fact 16 (f := .glo "turnings") rfl), F.bindsN fun _ _ _ _ _ _ us hl => match us, hl with | [_], _ => rfl⟩
theorem at_gate_to (X : K.In h) (G : h.Ns mainGlobals mg) (c : He.SaysD fa fn K) : At K mg "gate_to" s_gate_to ["lead", "goal"] := by
  obtain ⟨fd, F⟩ := c.def_ 18 (d := d_gate_to) rfl
  exact ⟨_, fd, F, He.glo_ok X G (c.fact 15 (f := .glo "gate_to") rfl), F.bindsN fun _ _ _ _ _ _ us hl => match us, hl with | [_, _], _ => rfl⟩
theorem at_normal_of (X : K.In h) (G : h.Ns mainGlobals mg) (c : He.SaysD fa fn K) : At K mg "normal_of" s_normal_of ["told"] := by
  obtain ⟨fd, F⟩ := c.def_ 20 (d := d_normal_of) rfl
  exact ⟨_, fd, F, He.glo_ok X G (c.fact 17 (f := .glo "normal_of") rfl), F.bindsN fun _ _ _ _ _ _ us hl => match us, hl with | [_], _ => rfl⟩
theorem at_looks_back (X : K.In h) (G : h.Ns mainGlobals mg) (c : He.SaysD fa fn K) : At K mg "looks_back" s_looks_back ["row"] := by
  obtain ⟨fd, F⟩ := c.def_ 21 (d := d_looks_back) rfl
  exact ⟨_, fd, F, He.glo_ok X G (c.fact 18 (f := .glo "looks_back") rfl), F.bindsN fun _ _ _ _ _ _ us hl => match us, hl with | [_], _ => rfl⟩
theorem at_check_few (X : K.In h) (G : h.Ns mainGlobals mg) (c : He.SaysD fa fn K) : At K mg "check_few" s_check_few ["row"] := by
  obtain ⟨fd, F⟩ := c.def_ 34 (d := d_check_few) rfl
  exact ⟨_, fd, F, He.glo_ok X G (c.fact 31 (f := .glo "check_few") rfl), F.bindsN fun _ _ _ _ _ _ us hl => match us, hl with | [_], _ => rfl⟩
theorem at_at_first (X : K.In h) (G : h.Ns mainGlobals mg) (c : He.SaysD fa fn K) : At K mg "at_first" s_at_first ["gate"] := by
  obtain ⟨fd, F⟩ := c.def_ 27 (d := d_at_first) rfl
  exact ⟨_, fd, F, He.glo_ok X G (c.fact 24 (f := .glo "at_first") rfl), F.bindsN fun _ _ _ _ _ _ us hl => match us, hl with | [_], _ => rfl⟩
theorem at_gate_step (X : K.In h) (G : h.Ns mainGlobals mg) (c : He.SaysD fa fn K) : At K mg "gate_step" s_gate_step ["gate", "state", "flag"] := by
  obtain ⟨fd, F⟩ := c.def_ 28 (d := d_gate_step) rfl
  exact ⟨_, fd, F, He.glo_ok X G (c.fact 25 (f := .glo "gate_step") rfl), F.bindsN fun _ _ _ _ _ _ us hl => match us, hl with | [_, _, _], _ => rfl⟩
theorem at_row_step (X : K.In h) (G : h.Ns mainGlobals mg) (c : He.SaysD fa fn K) : At K mg "row_step" s_row_step ["gates", "states", "flag"] := by
  obtain ⟨fd, F⟩ := c.def_ 29 (d := d_row_step) rfl
  exact ⟨_, fd, F, He.glo_ok X G (c.fact 26 (f := .glo "row_step") rfl), F.bindsN fun _ _ _ _ _ _ us hl => match us, hl with | [_, _, _], _ => rfl⟩
theorem at_wide_machine (X : K.In h) (G : h.Ns mainGlobals mg) (c : He.SaysD fa fn K) : At K mg "wide_machine" s_wide_machine ["gates"] := by
  obtain ⟨fd, F⟩ := c.def_ 30 (d := d_wide_machine) rfl
  exact ⟨_, fd, F, He.glo_ok X G (c.fact 27 (f := .glo "wide_machine") rfl), F.bindsN fun _ _ _ _ _ _ us hl => match us, hl with | [_], _ => rfl⟩
theorem at_machine_of (X : K.In h) (G : h.Ns mainGlobals mg) (c : He.SaysD fa fn K) : At K mg "machine_of" s_machine_of ["told"] := by
  obtain ⟨fd, F⟩ := c.def_ 35 (d := d_machine_of) rfl
  exact ⟨_, fd, F, He.glo_ok X G (c.fact 32 (f := .glo "machine_of") rfl), F.bindsN fun _ _ _ _ _ _ us hl => match us, hl with | [_], _ => rfl⟩
theorem at_machine (X : K.In h) (G : h.Ns mainGlobals mg) (c : He.SaysD fa fn K) : At K mg "machine" s_machine ["row"] := by
  obtain ⟨fd, F⟩ := c.def_ 36 (d := d_machine) rfl
  exact ⟨_, fd, F, He.glo_ok X G (c.fact 33 (f := .glo "machine") rfl), F.bindsN fun _ _ _ _ _ _ us hl => match us, hl with | [_], _ => rfl⟩
theorem at_Llive_row (X : K.In h) (G : h.Ns mainGlobals mg) (c : He.SaysD fa fn K) : At K mg "_law_live_row" s_Llive_row ["_law_tape_here", "_law_most"] := by
  obtain ⟨fd, F⟩ := c.def_ 42 (d := d_Llive_row) rfl
  exact ⟨_, fd, F, He.glo_ok X G (c.fact 39 (f := .glo "_law_live_row") rfl), F.bindsN fun _ _ _ _ _ _ us hl => match us, hl with | [_, _], _ => rfl⟩
end
theorem walked {P : Program} {w : World} {K : PySem.W.Frag} {h base : Heap} {mg : Str → Option Value} {f : Addr} {fd : FuncData} (X : K.In h) (G : h.Ns mainGlobals mg) (c : He.SaysD fa fn K) (F : FunD K "law" "law" (defArgs s_law) (defBody s_law) (defScope s_law) [] [] f fd) :
    FnOk P w K mg base CX0 9 f fd ["_law_script"] (sp_lawK K) := by
  have T := top_of X G c
  have Ca := climb_of_head X G c
  have r_Ltape : Fn P w K mg base 1 "_law_tape" ["_law_script"] (sp_tapeK K) := ok_Ltape T (at_Ltape X G c)
  have r_Lpick : Fn P w K mg base 1 "_law_pick" ["_law_tape_here", "_law_many"] sp_pick := ok_Lpick T (at_Lpick X G c)
  have r_Lcounter : Fn P w K mg base 1 "_law_counter" ["_law_n"] sp_counter := ok_Lcounter T (at_Lcounter X G c)
  have r_is_pair : Fn P w K mg base 1 "is_pair" ["thing"] sp_is_pair := ok_is_pair T (at_is_pair X G c)
  have r_is_flag : Fn P w K mg base 1 "is_flag" ["thing"] sp_is_flag := ok_is_flag T (at_is_flag X G c)
  have r_is_integer : Fn P w K mg base 1 "is_integer" ["thing"] sp_is_integer := ok_is_integer T (at_is_integer X G c)
  have r_is_within : Fn P w K mg base 2 "is_within" ["thing", "least", "most"] sp_is_within := ok_is_within T (at_is_within X G c) r_is_integer
  have r_is_side : Fn P w K mg base 3 "is_side" ["thing", "many"] sp_is_side := ok_is_side T (at_is_side X G c) r_is_pair r_is_flag r_is_within
  have r_is_told_machine : Fn P w K mg base 4 "is_told_machine" ["thing"] sp_told := ok_is_told_machine T (at_is_told_machine X G c) r_is_pair r_is_side
  have r_check_machine : Fn P w K mg base 5 "check_machine" ["thing"] sp_check := ok_check_machine (at_check_machine X G c) r_is_told_machine
  have r_numbered : Fn P w K mg base 1 "numbered" ["signs"] sp_numbered := ok_numbered T (at_numbered X G c)
  have r_kinds_of : Fn P w K mg base 2 "kinds_of" ["told"] sp_kinds_of := ok_kinds_of T (at_kinds_of X G c) r_numbered
  have r_least_of : Fn P w K mg base 3 "least_of" ["told"] sp_least_of := ok_least_of T (at_least_of X G c) r_kinds_of
  have r_least : Fn P w K mg base 6 "least" ["told"] sp_least_of := ok_least (at_least X G c) r_check_machine r_least_of
  have r_Lwider : Fn P w K mg base 2 "_law_wider" ["_law_tape_here", "_law_made"] sp_wider := ok_Lwider T (at_Lwider X G c) r_Lpick
  have r_flags_to : Fn P w K mg base 1 "flags_to" ["came", "pair"] (sp_flags_to P w) := ok_flags_to T (at_flags_to X G c)
  have r_unlike_flags : Fn P w K mg base 6 "unlike_flags" ["one", "other"] sp_unlike := ok_unlike_flags T (at_unlike_flags X G c) r_check_machine r_flags_to
  have r_is_listed : Fn P w K mg base 1 "is_listed" ["thing"] sp_listed := ok_is_listed T (at_is_listed X G c)
  have r_shown_by : Fn P w K mg base 6 "shown_by" ["told", "flags"] sp_shown := ok_shown_by T (at_shown_by X G c) r_check_machine r_is_listed r_is_flag
  have r_Lshown : Fn P w K mg base 1 "_law_shown" ["_law_made", "_law_flags"] sp_Lshown := ok_Lshown T (at_Lshown X G c)
  have r_Lcounters_right : Fn P w K mg base 7 "_law_counters_right" ["_law_tape_here", "_law_n"] sp_counters := ok_Lcounters_right T (at_Lcounters_right X G c) r_Lcounter r_least r_Lwider r_unlike_flags r_Lpick r_shown_by r_Lshown
  have r_Lmachine : Fn P w K mg base 2 "_law_machine" ["_law_tape_here"] sp_drawn := ok_Lmachine T (at_Lmachine X G c) r_Lpick
  have r_is_machine : Fn P w K mg base 5 "is_machine" ["thing"] sp_told := ok_is_machine (at_is_machine X G c) r_is_told_machine
  have r_Lis_machine : Fn P w K mg base 1 "_law_is_machine" ["_law_thing"] sp_law_is := ok_Lis_machine T (at_Lis_machine X G c)
  have r_Lcome_to : Fn P w K mg base 1 "_law_come_to" ["_law_made"] sp_come := ok_Lcome_to T (at_Lcome_to X G c)
  have r_Lkinds : Fn P w K mg base 1 "_law_kinds" ["_law_made"] sp_kinds := ok_Lkinds T (at_Lkinds X G c)
  have r_Lis_least : Fn P w K mg base 2 "_law_is_least" ["_law_made"] sp_is_least := ok_Lis_least T (at_Lis_least X G c) r_Lis_machine r_Lcome_to r_Lkinds
  have r_Lunlike : Fn P w K mg base 1 "_law_unlike" ["_law_one", "_law_other"] sp_unlike := ok_Lunlike T (at_Lunlike X G c)
  have r_Lparted_right : Fn P w K mg base 7 "_law_parted_right" ["_law_one", "_law_other"] sp_parted := ok_Lparted_right T (at_Lparted_right X G c) r_Lunlike r_unlike_flags r_least r_shown_by
  have r_is_amount : Fn P w K mg base 2 "is_amount" ["thing"] sp_amount := ok_is_amount (at_is_amount X G c) r_is_integer
  have r_is_gate : Fn P w K mg base 3 "is_gate" ["thing"] sp_gate := ok_is_gate T (at_is_gate X G c) r_is_integer r_is_amount
  have r_is_row_of : Fn P w K mg base 4 "is_row_of" ["thing", "deep"] sp_row_of := ok_is_row_of T (at_is_row_of X G c) r_is_gate
  have r_is_told_row : Fn P w K mg base 5 "is_told_row" ["thing"] sp_told_row := ok_is_told_row T (at_is_told_row X G c) r_is_row_of
  have r_check_row : Fn P w K mg base 6 "check_row" ["thing"] sp_check_row := ok_check_row (at_check_row X G c) r_is_told_row
  have r_late_by : Fn P w K mg base 1 "late_by" ["gate"] sp_late_by := ok_late_by (at_late_by X G c)
  have r_sums_of : Fn P w K mg base 2 "sums_of" ["row"] sp_sums_of := ok_sums_of T (at_sums_of X G c) r_late_by
  have r_Climb_init : FnI P w K mg base 1 (He.ga K "Climb") ["self"] (sp_init (He.ga K "Climb")) := ok_Climb_init Ca (at_Climb_init c)
  have r_Climb_note : FnM P w K mg base 1 (He.ga K "Climb") "note" ["self", "word", "many"] (sp_note (He.ga K "Climb")) := ok_Climb_note T Ca (at_Climb_note c)
  have r_Climb_go_to : FnM P w K mg base 2 (He.ga K "Climb") "go_to" ["self", "lead"] (sp_go_to (He.ga K "Climb")) := ok_Climb_go_to T Ca (at_Climb_go_to c) r_Climb_note
  have r_climb_of : Fn P w K mg base 3 "climb_of" ["row"] (sp_climb_of (He.ga K "Climb")) := ok_climb_of T Ca (at_climb_of X G c) r_late_by r_Climb_init r_Climb_go_to
  have r_ladder_of : Fn P w K mg base 4 "ladder_of" ["row"] sp_ladder_of := ok_ladder_of T Ca (at_ladder_of X G c) r_climb_of
  have r_shape_of : Fn P w K mg base 5 "shape_of" ["row"] sp_shape_of := ok_shape_of T (at_shape_of X G c) r_sums_of r_ladder_of
  have r_turnings : Fn P w K mg base 1 "turnings" ["told"] sp_turnings := ok_turnings T (at_turnings X G c)
  have r_gate_to : Fn P w K mg base 1 "gate_to" ["lead", "goal"] sp_gate_to := ok_gate_to (at_gate_to X G c)
  have r_normal_of : Fn P w K mg base 2 "normal_of" ["told"] sp_normal_of := ok_normal_of T (at_normal_of X G c) r_turnings r_gate_to
  have r_looks_back : Fn P w K mg base 6 "looks_back" ["row"] sp_looks_back := ok_looks_back T (at_looks_back X G c) r_shape_of r_normal_of
  have r_check_few : Fn P w K mg base 7 "check_few" ["row"] sp_check_few := ok_check_few T (at_check_few X G c) r_check_row r_looks_back r_sums_of
  have r_at_first : Fn P w K mg base 1 "at_first" ["gate"] sp_at_first := ok_at_first (at_at_first X G c)
  have r_gate_step : Fn P w K mg base 1 "gate_step" ["gate", "state", "flag"] sp_gate_step := ok_gate_step T (at_gate_step X G c)
  have r_row_step : Fn P w K mg base 2 "row_step" ["gates", "states", "flag"] sp_row_step := ok_row_step T (at_row_step X G c) r_gate_step
  have r_wide_machine : Fn P w K mg base 3 "wide_machine" ["gates"] sp_wide := ok_wide_machine T (at_wide_machine X G c) r_at_first r_row_step
  have r_machine_of : Fn P w K mg base 4 "machine_of" ["told"] sp_machine_of := ok_machine_of (at_machine_of X G c) r_normal_of r_wide_machine r_least_of
  have r_machine : Fn P w K mg base 8 "machine" ["row"] sp_machine := ok_machine (at_machine X G c) r_check_few r_shape_of r_machine_of
  have r_Llive_row : Fn P w K mg base 2 "_law_live_row" ["_law_tape_here", "_law_most"] sp_live := ok_Llive_row T (at_Llive_row X G c) r_Lpick
  exact ok_law T F r_Ltape r_Lpick r_Lcounters_right r_Lmachine r_least r_is_machine r_Lis_least r_Lunlike r_Lwider r_Lparted_right r_machine r_Llive_row
theorem facts {P : Program} {w : World} {K : PySem.W.Frag} {h : Heap} {mg : Str → Option Value} {f : Addr} (X : K.In h) (G : h.Ns mainGlobals mg) (hfa : mg ("law" : Str) = some (.ref f)) (c : He.SaysD fa fn K) :
    ∃ fd : FuncData, (∀ (s : Shared) (v : Value), BindsTo s fd ⟨[v], []⟩ [("_law_script", v)]) ∧ ∀ base : Heap, K.In base → base.Ns mainGlobals mg → FnOk P w K mg base CX0 9 f fd ["_law_script"] (sp_lawK K) := by
  obtain ⟨fd, F⟩ := c.def_ 54 (d := d_law) rfl
  have e := hfa.symm.trans (He.glo_ok X G (c.fact 51 (f := .glo "law") rfl))
  cases e
  have b := FunD.bindsA (ps := ["_law_script"]) F fun _ _ _ _ _ _ us hl => match us, hl with | [_], _ => rfl
  exact ⟨fd, fun s v => b s [v] rfl, fun base _ _ => walked X G c F⟩
end K13
open PySem PySem.W PySem.Calls PyProof.Rows
theorem PySem.Challenge.cw_lateedges_k13_whole_least_machines_holds : PySem.Challenge.rw_lateedges_k13_whole_least_machines.Holds := by
  w_on; o_law
  refine HandSHeadRun.head_any (r := OpenLaw.row PySem.Challenge.rw_lateedges_k13_whole_least_machines) (q := view (OpenLaw.row PySem.Challenge.rw_lateedges_k13_whole_least_machines).prog [70]) (H := K13.hk) (ob := K13.ob) (M := 20000) (loose := K13.names) (d := HandSHeadRun.topDef (OpenLaw.row PySem.Challenge.rw_lateedges_k13_whole_least_machines).prog 70) (kwd := []) K13.ob_eq
    (by kernel_rfl) (fun s => by kernel_rfl) K13.run (by kernel_rfl) (by kernel_rfl) (by kernel_rfl) (by rfl) (by first | assumption | decide +kernel) (by decide +kernel) ⟨rfl, rfl, rfl, rfl, rfl, by decide +kernel⟩ ?hw ?hc
  case hw => w_witness2
  case hc =>
    refine L2.walk_ofE (l := PySem.Challenge.rw_lateedges_k13_whole_least_machines) (n := 63) (k := 9) (x := "_law_script") (CX := L2.CX0) rfl (by decide) (by kernel_rfl) ⟨rfl, by decide, by decide⟩ ?F (fun _ _ _ _ z => z)
    intro w mg fa h Y G hmg0
    obtain ⟨K, KX, c⟩ := Y
    have hmg : mg ("law" : PySem.Str) = some (.ref fa) := by
      have e : (HandSHeadRun.topDef (OpenLaw.row PySem.Challenge.rw_lateedges_k13_whole_least_machines).prog 70).name = ("law" : PySem.Str) := by kernel_rfl
      rw [← e]
      exact hmg0
    obtain ⟨fd, hb, hF⟩ := K13.facts (P := (PySem.Challenge.rw_lateedges_k13_whole_least_machines).prog) (w := w) KX G hmg c
    exact ⟨K, fd, K13.sp_lawK K, KX, hb, fun H a ns hl _ hS => ⟨a, ns, rfl, hS, fun _ => rfl⟩, hF⟩
