import PyProof.Rows.All
import Wide.All
import OpenK.AllK
import Wide.FinOn
import HandS.ForMost
import HandS.Lambda
import HandS.Walk
import KE.GoesEnum
import HandS.More
import HandS.Sort
import HandS.DictComp
import HandS.DeepEq
import HandS.Conv
import PyProof.P3Eq
import KE.KStateDown
import HandS.Defaults
import HandS.Codes
import HandS.Property
import HandS.IsInst
import HandS.Head2
import HandS.HeadHook4
import HandS.HeadWalk
import HandS.EndTab
import HandS.Wide
import HandS.TupAny
import KE.KTupSum
import HandS.CallLocal
import PySem.Challenge.RW_whytold_k62_whole_odds_piece_by_piece
set_option Elab.async false
set_option linter.all false
set_option maxRecDepth 100000
set_option maxHeartbeats 4000000
/-! ==== M62 ==== -/
/-! The plain law of k62: odds, by counting. No program in sight. -/
namespace Od
abbrev Dc := List (Nat × Nat)
def get (d : Dc) (k : Nat) : Option Nat := (d.find? fun e => decide (e.1 = k)).map (·.2)
def put (d : Dc) (k v : Nat) : Dc := if (d.any fun e => decide (e.1 = k)) = true then d.map (fun e => if e.1 = k then (e.1, v) else e) else d ++ [(k, v)]
def bump (d : Dc) (k v : Nat) : Dc := put d k ((get d k).getD 0 + v)
/-- sums over a dict -/
def T (d : Dc) (g : Nat → Nat) : Nat := (d.map fun e => e.2 * g e.1).sum
def Nd (d : Dc) : Prop := (d.map (·.1)).Nodup
def Pos (d : Dc) : Prop := ∀ e ∈ d, 0 < e.2
def Below (n : Nat) (d : Dc) : Prop := ∀ e ∈ d, e.1 < n

theorem get_nil (k : Nat) : get [] k = none := rfl
theorem get_pos {e : Nat × Nat} {r : Dc} {k : Nat} (h : e.1 = k) : get (e :: r) k = some e.2 := by simp [get, List.find?_cons, h]
theorem get_neg {e : Nat × Nat} {r : Dc} {k : Nat} (h : ¬ e.1 = k) : get (e :: r) k = get r k := by simp [get, List.find?_cons, h]
theorem get_none {k : Nat} : ∀ {d : Dc}, get d k = none ↔ k ∉ d.map (·.1)
  | [] => by simp [get]
  | e :: r => by
    by_cases h : e.1 = k
    · simp [get_pos h, h]
    · rw [get_neg h, get_none (d := r)]
      simp only [List.map_cons, List.mem_cons, not_or]
      exact ⟨fun z => ⟨fun q => h q.symm, z⟩, fun z => z.2⟩
theorem any_get (k : Nat) : ∀ d : Dc, (d.any fun e => decide (e.1 = k)) = (get d k).isSome
  | [] => rfl
  | e :: r => by
    rw [List.any_cons]
    by_cases h : e.1 = k
    · simp [get_pos h, h]
    · simp [get_neg h, h, any_get k r]
theorem get_mem {k v : Nat} : ∀ {d : Dc}, get d k = some v → (k, v) ∈ d
  | [], h => by simp [get] at h
  | e :: r, h => by
    by_cases q : e.1 = k
    · rw [get_pos q] at h
      have : e = (k, v) := by
        cases e
        simp at q h
        rw [q, h]
      rw [this]
      exact List.mem_cons_self
    · rw [get_neg q] at h
      exact List.mem_cons_of_mem _ (get_mem h)
theorem mem_get {k v : Nat} : ∀ {d : Dc}, Nd d → (k, v) ∈ d → get d k = some v
  | e :: r, nd, h => by
    have nd' := List.nodup_cons.mp (show ((e :: r).map (·.1)).Nodup from nd)
    rcases List.mem_cons.mp h with q | q
    · rw [← q]
      exact get_pos rfl
    · have : ¬ e.1 = k := fun z => nd'.1 (by show e.1 ∈ _; rw [z]; exact List.mem_map.mpr ⟨_, q, rfl⟩)
      rw [get_neg this]
      exact mem_get nd'.2 q
theorem put_new {d : Dc} {k v : Nat} (h : get d k = none) : put d k v = d ++ [(k, v)] := by
  unfold put
  rw [any_get, h]
  exact if_neg (by decide)
theorem put_old {d : Dc} {k v x : Nat} (h : get d k = some x) : put d k v = d.map (fun e => if e.1 = k then (e.1, v) else e) := by
  unfold put
  rw [any_get, h]
  exact if_pos rfl
theorem keys_old (k v : Nat) (d : Dc) : (d.map (fun e => if e.1 = k then (e.1, v) else e)).map (·.1) = d.map (·.1) := by
  rw [List.map_map]
  apply List.map_congr_left
  intro e _
  show (if e.1 = k then (e.1, v) else e).1 = e.1
  split <;> rfl
theorem put_nd {d : Dc} (k v : Nat) (h : Nd d) : Nd (put d k v) := by
  cases q : get d k with
  | none =>
    rw [put_new q]
    unfold Nd
    rw [List.map_append, List.nodup_append]
    refine ⟨h, by simp, fun a ha b hb => ?_⟩
    have e : b = k := by simpa using hb
    rw [e]
    rintro rfl
    exact get_none.mp q ha
  | some x =>
    rw [put_old q]
    unfold Nd
    rw [keys_old]
    exact h
theorem bump_nd {d : Dc} (k v : Nat) (h : Nd d) : Nd (bump d k v) := put_nd _ _ h
theorem put_pos {d : Dc} {k v : Nat} (h : Pos d) (hv : 0 < v) : Pos (put d k v) := by
  intro e he
  unfold put at he
  split at he
  · obtain ⟨a, ha, rfl⟩ := List.mem_map.mp he
    show 0 < (if a.1 = k then (a.1, v) else a).2
    split
    · exact hv
    · exact h a ha
  · rcases List.mem_append.mp he with q | q
    · exact h e q
    · have e : e = (k, v) := by simpa using q
      rw [e]
      exact hv
theorem bump_pos {d : Dc} {k v : Nat} (h : Pos d) (hv : 0 < v) : Pos (bump d k v) := put_pos h (by omega)
theorem put_below {n : Nat} {d : Dc} {k v : Nat} (h : Below n d) (hk : k < n) : Below n (put d k v) := by
  intro e he
  unfold put at he
  split at he
  · obtain ⟨a, ha, rfl⟩ := List.mem_map.mp he
    show (if a.1 = k then (a.1, v) else a).1 < n
    split
    · exact h a ha
    · exact h a ha
  · rcases List.mem_append.mp he with q | q
    · exact h e q
    · have e : e = (k, v) := by simpa using q
      rw [e]
      exact hk
theorem bump_below {n : Nat} {d : Dc} {k v : Nat} (h : Below n d) (hk : k < n) : Below n (bump d k v) := put_below h hk
theorem T_nil (g : Nat → Nat) : T [] g = 0 := rfl
theorem T_cons (e : Nat × Nat) (r : Dc) (g : Nat → Nat) : T (e :: r) g = e.2 * g e.1 + T r g := by simp [T]
theorem T_app (a b : Dc) (g : Nat → Nat) : T (a ++ b) g = T a g + T b g := by simp [T]
theorem map_id_of {k v : Nat} : ∀ {r : Dc}, k ∉ r.map (·.1) → r.map (fun e => if e.1 = k then (e.1, v) else e) = r
  | [], _ => rfl
  | e :: r, h => by
    have h' : ¬ e.1 = k ∧ k ∉ r.map (·.1) := by
      simp only [List.map_cons, List.mem_cons, not_or] at h
      exact ⟨fun z => h.1 z.symm, h.2⟩
    rw [List.map_cons, if_neg h'.1, map_id_of h'.2]
theorem T_old (g : Nat → Nat) (k v x : Nat) : ∀ {d : Dc}, Nd d → get d k = some x → T (d.map (fun e => if e.1 = k then (e.1, x + v) else e)) g = T d g + v * g k
  | [], _, h => by simp [get] at h
  | e :: r, nd, h => by
    have nd' := List.nodup_cons.mp (show ((e :: r).map (·.1)).Nodup from nd)
    rw [List.map_cons, T_cons, T_cons]
    by_cases q : e.1 = k
    · rw [get_pos q] at h
      have ex : e.2 = x := Option.some.inj h
      rw [if_pos q, map_id_of (by rw [← q]; exact nd'.1)]
      show (x + v) * g e.1 + T r g = e.2 * g e.1 + T r g + v * g k
      rw [q, ex, Nat.add_mul]
      omega
    · rw [get_neg q] at h
      rw [if_neg q, T_old g k v x nd'.2 h]
      omega
theorem T_bump (g : Nat → Nat) {d : Dc} (k v : Nat) (nd : Nd d) : T (bump d k v) g = T d g + v * g k := by
  unfold bump
  cases q : get d k with
  | none =>
    show T (put d k (0 + v)) g = _
    rw [put_new q, T_app, T_cons, T_nil, Nat.zero_add]
    simp
  | some x =>
    show T (put d k (x + v)) g = _
    rw [put_old q, T_old g k v x nd q]
theorem T_le_of {d : Dc} {g h : Nat → Nat} (z : ∀ e ∈ d, g e.1 = h e.1) : T d g = T d h := by
  unfold T
  congr 1
  apply List.map_congr_left
  intro e he
  rw [z e he]
theorem T_mul (c : Nat) (g : Nat → Nat) : ∀ d : Dc, T d (fun p => c * g p) = c * T d g
  | [] => by simp [T]
  | e :: r => by
    rw [T_cons, T_cons, T_mul c g r, Nat.mul_add, Nat.mul_left_comm]
theorem T_add (g h : Nat → Nat) : ∀ d : Dc, T d (fun p => g p + h p) = T d g + T d h
  | [] => rfl
  | e :: r => by
    rw [T_cons, T_cons, T_cons, T_add g h r, Nat.mul_add]
    omega
/-- what a dict holds at a key, by sums -/
theorem T_at {d : Dc} (nd : Nd d) (k : Nat) : T d (fun p => if p = k then 1 else 0) = (get d k).getD 0 := by
  induction d with
  | nil => rfl
  | cons e r ih =>
    have nd' := List.nodup_cons.mp (show ((e :: r).map (·.1)).Nodup from nd)
    rw [T_cons]
    by_cases q : e.1 = k
    · rw [get_pos q]
      have z : T r (fun p => if p = k then 1 else 0) = 0 := by
        rw [ih nd'.2, get_none.mpr (by rw [← q]; exact nd'.1)] <;> rfl
      rw [z]
      simp [q]
    · rw [get_neg q, ih nd'.2]
      simp [q]
theorem get_some_pos {d : Dc} (ps : Pos d) {k v : Nat} (h : get d k = some v) : 0 < v := ps _ (get_mem h)
/-- an entry is there exactly if it is not 0 -/
theorem get_of {d : Dc} (nd : Nd d) (ps : Pos d) (k : Nat) : get d k = if T d (fun p => if p = k then 1 else 0) = 0 then none else some (T d (fun p => if p = k then 1 else 0)) := by
  rw [T_at nd]
  cases q : get d k with
  | none => rfl
  | some v =>
    have := get_some_pos ps q
    show some v = if v = 0 then none else some v
    rw [if_neg (by omega)]

/-! ### watches, and where rows lead -/
structure Wt where
  n : Nat
  k : Nat
  mv : Nat → Nat → Nat
  wd : Nat → Nat
structure Wt.Ok (W : Wt) : Prop where
  n1 : 1 ≤ W.n
  n6 : W.n ≤ 6
  k1 : 1 ≤ W.k
  k4 : W.k ≤ 4
  mv : ∀ p < W.n, ∀ c < W.k, W.mv p c < W.n
  wd : ∀ p < W.n, W.wd p ≤ 3
abbrev Row := List (Option Nat)
def Row.Ok (k : Nat) (s : Row) : Prop := ∀ c, some c ∈ s → c < k
def kindsOf (k : Nat) : Option Nat → List Nat
  | none => List.range k
  | some c => [c]
def wOf (ws : Nat → Nat) : Option Nat → Nat → Nat
  | none, c => ws c
  | some _, _ => 1
def heavier1 (W : Wt) (ws : Nat → Nat) (item : Option Nat) (e : Nat × Nat) (acc : Dc) : Dc := (kindsOf W.k item).foldl (fun acc c => bump acc (W.mv e.1 c) (e.2 * wOf ws item c)) acc
def heavier (W : Wt) (ws : Nat → Nat) (found : Dc) (item : Option Nat) : Dc := found.foldl (fun acc e => heavier1 W ws item e acc) []
def numbers (W : Wt) (ws : Nat → Nat) (s : Row) : Dc := s.foldl (heavier W ws) [(0, 1)]
def sumTo (f : Nat → Nat) (n : Nat) : Nat := ((List.range n).map f).sum
def unk (s : Row) : Nat := (s.filter fun i => i.isNone).length
def whole (ws : Nat → Nat) (k : Nat) (s : Row) : Nat := sumTo ws k ^ unk s
/-- backwards: the weight of all that one event leads to -/
def A (W : Wt) (ws : Nat → Nat) (item : Option Nat) (g : Nat → Nat) : Nat → Nat := fun p => ((kindsOf W.k item).map fun c => wOf ws item c * g (W.mv p c)).sum
def B (W : Wt) (ws : Nat → Nat) : Row → (Nat → Nat) → Nat → Nat
  | [], g => g
  | i :: r, g => A W ws i (B W ws r g)

/-- Nd, Pos, Below together -/
structure Good (n : Nat) (d : Dc) : Prop where
  nd : Nd d
  ps : Pos d
  lt : Below n d
theorem good_one : Good 1 [(0, 1)] := ⟨by simp [Nd], fun e h => (by simp at h; rw [h]; decide), fun e h => (by simp at h; rw [h]; decide)⟩
theorem Good.mono {n m : Nat} {d : Dc} (g : Good n d) (h : n ≤ m) : Good m d := ⟨g.nd, g.ps, fun e he => Nat.lt_of_lt_of_le (g.lt e he) h⟩
theorem good_nil (n : Nat) : Good n [] := ⟨by simp [Nd], fun e h => (by cases h), fun e h => (by cases h)⟩
theorem Good.bump {n : Nat} {d : Dc} {k v : Nat} (g : Good n d) (hk : k < n) (hv : 0 < v) : Good n (bump d k v) := ⟨bump_nd _ _ g.nd, bump_pos g.ps hv, bump_below g.lt hk⟩
theorem kindsOf_lt {k : Nat} {item : Option Nat} (h : ∀ c, item = some c → c < k) : ∀ c ∈ kindsOf k item, c < k := by
  intro c hc
  cases item with
  | none => exact List.mem_range.mp hc
  | some a =>
    have : c = a := by simpa [kindsOf] using hc
    rw [this]
    exact h a rfl
theorem wOf_pos {ws : Nat → Nat} {k : Nat} (hw : ∀ c < k, 0 < ws c) {item : Option Nat} (h : ∀ c, item = some c → c < k) : ∀ c ∈ kindsOf k item, 0 < wOf ws item c := by
  intro c hc
  cases item with
  | none => exact hw c (List.mem_range.mp hc)
  | some a => exact Nat.one_pos
section
variable {W : Wt} {ws : Nat → Nat}
theorem fold_bump_good {n : Nat} (f v : Nat → Nat) : ∀ (l : List Nat) (acc : Dc), (∀ c ∈ l, f c < n ∧ 0 < v c) → Good n acc → Good n (l.foldl (fun acc c => bump acc (f c) (v c)) acc)
  | [], acc, _, h => h
  | c :: r, acc, hl, h => fold_bump_good f v r _ (fun c hc => hl c (List.mem_cons_of_mem _ hc)) (h.bump (hl c List.mem_cons_self).1 (hl c List.mem_cons_self).2)
theorem fold_bump_nd (f v : Nat → Nat) : ∀ (l : List Nat) (acc : Dc), Nd acc → Nd (l.foldl (fun acc c => bump acc (f c) (v c)) acc)
  | [], acc, h => h
  | c :: r, acc, h => fold_bump_nd f v r _ (bump_nd _ _ h)
theorem fold_bump_T (g f v : Nat → Nat) : ∀ (l : List Nat) (acc : Dc), Nd acc → T (l.foldl (fun acc c => bump acc (f c) (v c)) acc) g = T acc g + (l.map fun c => v c * g (f c)).sum
  | [], acc, _ => by simp
  | c :: r, acc, h => by
    rw [List.foldl_cons, fold_bump_T g f v r _ (bump_nd _ _ h), T_bump g _ _ h, List.map_cons, List.sum_cons]
    omega
theorem sum_mul_left (c : Nat) : ∀ l : List Nat, (l.map fun x => c * x).sum = c * l.sum
  | [] => by simp
  | x :: r => by rw [List.map_cons, List.sum_cons, List.sum_cons, sum_mul_left c r, Nat.mul_add]
theorem sum_mul_leftF (c : Nat) (f : Nat → Nat) (l : List Nat) : (l.map fun x => c * f x).sum = c * (l.map f).sum := by
  rw [← sum_mul_left c (l.map f), List.map_map] <;> rfl
theorem heavier1_nd (item : Option Nat) (e : Nat × Nat) {acc : Dc} (h : Nd acc) : Nd (heavier1 W ws item e acc) := fold_bump_nd _ _ _ _ h
theorem heavier1_good (ok : W.Ok) (hw : ∀ c < W.k, 0 < ws c) {item : Option Nat} (hi : ∀ c, item = some c → c < W.k) {e : Nat × Nat} (he : e.1 < W.n) (hp : 0 < e.2) {acc : Dc} (h : Good W.n acc) : Good W.n (heavier1 W ws item e acc) :=
  fold_bump_good _ _ _ _ (fun c hc => ⟨ok.mv _ he _ (kindsOf_lt hi c hc), Nat.mul_pos hp (wOf_pos hw hi c hc)⟩) h
theorem heavier1_T (g : Nat → Nat) (item : Option Nat) (e : Nat × Nat) {acc : Dc} (h : Nd acc) : T (heavier1 W ws item e acc) g = T acc g + e.2 * A W ws item g e.1 := by
  unfold heavier1
  rw [fold_bump_T g _ _ _ _ h]
  congr 1
  unfold A
  rw [← sum_mul_leftF]
  congr 1
  apply List.map_congr_left
  intro c _
  exact Nat.mul_assoc _ _ _
theorem heavier_good_from (ok : W.Ok) (hw : ∀ c < W.k, 0 < ws c) {item : Option Nat} (hi : ∀ c, item = some c → c < W.k) : ∀ (found acc : Dc), (∀ e ∈ found, e.1 < W.n ∧ 0 < e.2) → Good W.n acc → Good W.n (found.foldl (fun acc e => heavier1 W ws item e acc) acc)
  | [], acc, _, h => h
  | e :: r, acc, hf, h => heavier_good_from ok hw hi r _ (fun x hx => hf x (List.mem_cons_of_mem _ hx)) (heavier1_good ok hw hi (hf e List.mem_cons_self).1 (hf e List.mem_cons_self).2 h)
theorem heavier_good (ok : W.Ok) (hw : ∀ c < W.k, 0 < ws c) {item : Option Nat} (hi : ∀ c, item = some c → c < W.k) {found : Dc} (h : Good W.n found) : Good W.n (heavier W ws found item) :=
  heavier_good_from ok hw hi found [] (fun e he => ⟨h.lt e he, h.ps e he⟩) (good_nil _)
theorem heavier_T_from (g : Nat → Nat) (item : Option Nat) : ∀ (found acc : Dc), Nd acc → T (found.foldl (fun acc e => heavier1 W ws item e acc) acc) g = T acc g + T found (A W ws item g)
  | [], acc, _ => by simp [T]
  | e :: r, acc, h => by
    rw [List.foldl_cons, heavier_T_from g item r _ (heavier1_nd item e h), heavier1_T g item e h, T_cons]
    omega
theorem heavier_T (g : Nat → Nat) (item : Option Nat) (found : Dc) : T (heavier W ws found item) g = T found (A W ws item g) := by
  unfold heavier
  rw [heavier_T_from g item found [] (by simp [Nd]), T_nil, Nat.zero_add]
theorem fold_numbers_good (ok : W.Ok) (hw : ∀ c < W.k, 0 < ws c) : ∀ (s : Row) (d : Dc), Row.Ok W.k s → Good W.n d → Good W.n (s.foldl (heavier W ws) d)
  | [], d, _, h => h
  | i :: r, d, hs, h => fold_numbers_good ok hw r _ (fun c hc => hs c (List.mem_cons_of_mem _ hc)) (heavier_good ok hw (fun c e => hs c (by rw [← e]; exact List.mem_cons_self)) h)
theorem numbers_good (ok : W.Ok) (hw : ∀ c < W.k, 0 < ws c) {s : Row} (hs : Row.Ok W.k s) : Good W.n (numbers W ws s) := fold_numbers_good ok hw s _ hs (good_one.mono ok.n1)
theorem fold_numbers_T (g : Nat → Nat) : ∀ (s : Row) (d : Dc), T (s.foldl (heavier W ws) d) g = T d (B W ws s g)
  | [], d => rfl
  | i :: r, d => by
    rw [List.foldl_cons, fold_numbers_T g r _, heavier_T]
    rfl
theorem numbers_T (g : Nat → Nat) (s : Row) : T (numbers W ws s) g = B W ws s g 0 := by
  unfold numbers
  rw [fold_numbers_T]
  simp [T]
theorem B_app (s r : Row) (g : Nat → Nat) : B W ws (s ++ r) g = B W ws s (B W ws r g) := by
  induction s with
  | nil => rfl
  | cons i t ih =>
    show A W ws i (B W ws (t ++ r) g) = A W ws i (B W ws t (B W ws r g))
    rw [ih]
end
/-- what says a verdict -/
def ind (W : Wt) (v : Nat) : Nat → Nat := fun p => if W.wd p = v then 1 else 0
/-- the number of a verdict -/
def M (W : Wt) (ws : Nat → Nat) (s : Row) (v : Nat) : Nat := B W ws s (ind W v) 0
def wordsD (W : Wt) (found : Dc) : Dc := found.foldl (fun acc e => bump acc (W.wd e.1) e.2) []
section
variable {W : Wt} {ws : Nat → Nat}
theorem wordsD_nd_from : ∀ (found acc : Dc), Nd acc → Nd (found.foldl (fun acc e => bump acc (W.wd e.1) e.2) acc)
  | [], acc, h => h
  | e :: r, acc, h => wordsD_nd_from r _ (bump_nd _ _ h)
theorem wordsD_T_from (g : Nat → Nat) : ∀ (found acc : Dc), Nd acc → T (found.foldl (fun acc e => bump acc (W.wd e.1) e.2) acc) g = T acc g + T found (fun p => g (W.wd p))
  | [], acc, _ => by simp [T]
  | e :: r, acc, h => by
    rw [List.foldl_cons, wordsD_T_from g r _ (bump_nd _ _ h), T_bump g _ _ h, T_cons]
    omega
theorem wordsD_good_from {n : Nat} : ∀ (found acc : Dc), (∀ e ∈ found, W.wd e.1 < n ∧ 0 < e.2) → Good n acc → Good n (found.foldl (fun acc e => bump acc (W.wd e.1) e.2) acc)
  | [], acc, _, h => h
  | e :: r, acc, hf, h => wordsD_good_from r _ (fun x hx => hf x (List.mem_cons_of_mem _ hx)) (h.bump (hf e List.mem_cons_self).1 (hf e List.mem_cons_self).2)
theorem wordsD_good (ok : W.Ok) {found : Dc} (h : Good W.n found) : Good 4 (wordsD W found) :=
  wordsD_good_from found [] (fun e he => ⟨Nat.lt_succ_of_le (ok.wd _ (h.lt e he)), h.ps e he⟩) (good_nil _)
theorem wordsD_T (g : Nat → Nat) (found : Dc) : T (wordsD W found) g = T found (fun p => g (W.wd p)) := by
  unfold wordsD
  rw [wordsD_T_from g found [] (by simp [Nd]), T_nil, Nat.zero_add]
theorem words_get (ok : W.Ok) (hw : ∀ c < W.k, 0 < ws c) {s : Row} (hs : Row.Ok W.k s) (v : Nat) : get (wordsD W (numbers W ws s)) v = if M W ws s v = 0 then none else some (M W ws s v) := by
  have gd := wordsD_good ok (numbers_good ok hw hs)
  rw [get_of gd.nd gd.ps, wordsD_T, numbers_T]
  rfl
end
/-- the dict of a function of verdicts, ascending -/
def tab (m : Nat → Nat) : Dc := (List.range 4).filterMap fun v => if m v = 0 then none else some (v, m v)
def frac (a b : Nat) : Nat × Nat := (a / Nat.gcd a b, b / Nat.gcd a b)
theorem frac_eq {a b c d : Nat} (hb : 0 < b) (hd : 0 < d) (h : a * d = c * b) : frac a b = frac c d := by
  have g1 : 0 < Nat.gcd a b := Nat.gcd_pos_of_pos_right _ hb
  have g2 : 0 < Nat.gcd c d := Nat.gcd_pos_of_pos_right _ hd
  have co1 := Nat.coprime_div_gcd_div_gcd g1
  have co2 := Nat.coprime_div_gcd_div_gcd g2
  have ea : a = Nat.gcd a b * (a / Nat.gcd a b) := (Nat.mul_div_cancel' (Nat.gcd_dvd_left a b)).symm
  have eb : b = Nat.gcd a b * (b / Nat.gcd a b) := (Nat.mul_div_cancel' (Nat.gcd_dvd_right a b)).symm
  have ec : c = Nat.gcd c d * (c / Nat.gcd c d) := (Nat.mul_div_cancel' (Nat.gcd_dvd_left c d)).symm
  have ed : d = Nat.gcd c d * (d / Nat.gcd c d) := (Nat.mul_div_cancel' (Nat.gcd_dvd_right c d)).symm
  unfold frac
  generalize Nat.gcd a b = g at *
  generalize Nat.gcd c d = k at *
  generalize a / g = x at *
  generalize b / g = y at *
  generalize c / k = z at *
  generalize d / k = w at *
  have key : x * w = z * y := by
    rw [ea, eb, ec, ed] at h
    have h' : (g * k) * (x * w) = (g * k) * (z * y) := by
      rw [show (g * k) * (x * w) = g * x * (k * w) from by simp [Nat.mul_comm, Nat.mul_left_comm, Nat.mul_assoc], h]
      simp [Nat.mul_comm, Nat.mul_left_comm, Nat.mul_assoc]
    exact Nat.eq_of_mul_eq_mul_left (Nat.mul_pos g1 g2) h'
  have d1 : y ∣ w := by
    have : y ∣ x * w := ⟨z, by rw [key, Nat.mul_comm]⟩
    exact (Nat.Coprime.symm co1).dvd_of_dvd_mul_left this
  have d2 : w ∣ y := by
    have : w ∣ z * y := ⟨x, by rw [← key, Nat.mul_comm]⟩
    exact (Nat.Coprime.symm co2).dvd_of_dvd_mul_left this
  have yw : y = w := Nat.dvd_antisymm d1 d2
  subst yw
  have y0 : 0 < y := by
    rcases Nat.eq_zero_or_pos y with q | q
    · rw [q, Nat.mul_zero] at eb
      omega
    · exact q
  have xz : x = z := Nat.eq_of_mul_eq_mul_right y0 key
  rw [xz]
theorem frac_pos {a b : Nat} (hb : 0 < b) : 0 < (frac a b).2 := Nat.div_pos (Nat.le_of_dvd hb (Nat.gcd_dvd_right a b)) (Nat.gcd_pos_of_pos_right _ hb)
theorem frac_cross {a b : Nat} : (frac a b).1 * b = a * (frac a b).2 := by
  unfold frac
  have ea : a = Nat.gcd a b * (a / Nat.gcd a b) := (Nat.mul_div_cancel' (Nat.gcd_dvd_left a b)).symm
  have eb : b = Nat.gcd a b * (b / Nat.gcd a b) := (Nat.mul_div_cancel' (Nat.gcd_dvd_right a b)).symm
  generalize Nat.gcd a b = g at *
  generalize a / g = x at *
  generalize b / g = y at *
  rw [ea, eb]
  simp [Nat.mul_comm, Nat.mul_left_comm, Nat.mul_assoc]
theorem frac_scale {a b t : Nat} (hb : 0 < b) (ht : 0 < t) : frac (t * a) (t * b) = frac a b :=
  frac_eq (Nat.mul_pos ht hb) hb (by simp [Nat.mul_comm, Nat.mul_left_comm, Nat.mul_assoc])
theorem frac_le1 (a b : Nat) : (frac a b).1 ≤ a := Nat.div_le_self _ _
theorem frac_le2 (a b : Nat) : (frac a b).2 ≤ b := Nat.div_le_self _ _

/-! ### weights times a number -/
section
variable {W : Wt} {ws : Nat → Nat} {t : Nat}
abbrev times (t : Nat) (ws : Nat → Nat) : Nat → Nat := fun c => t * ws c
theorem sumTo_times (t : Nat) (ws : Nat → Nat) (k : Nat) : sumTo (times t ws) k = t * sumTo ws k := sum_mul_leftF t ws _
theorem A_mul (item : Option Nat) (c : Nat) (g : Nat → Nat) : A W ws item (fun p => c * g p) = fun p => c * A W ws item g p := by
  funext p
  unfold A
  rw [← sum_mul_leftF]
  congr 1
  apply List.map_congr_left
  intro x _
  exact Nat.mul_left_comm _ _ _
theorem B_mul (c : Nat) (g : Nat → Nat) : ∀ s : Row, B W ws s (fun p => c * g p) = fun p => c * B W ws s g p
  | [] => rfl
  | i :: r => by
    show A W ws i (B W ws r fun p => c * g p) = _
    rw [B_mul c g r, A_mul]
    rfl
theorem A_times (item : Option Nat) (g : Nat → Nat) : A W (times t ws) item g = fun p => (if item.isNone then t else 1) * A W ws item g p := by
  funext p
  cases item with
  | none =>
    unfold A
    rw [if_pos (show (none : Option Nat).isNone = true from rfl), ← sum_mul_leftF]
    congr 1
    apply List.map_congr_left
    intro x _
    exact Nat.mul_assoc _ _ _
  | some c =>
    rw [if_neg (by simp), Nat.one_mul]
    rfl
theorem unk_cons (i : Option Nat) (r : Row) : unk (i :: r) = (if i.isNone then 1 else 0) + unk r := by
  unfold unk
  rw [List.filter_cons]
  cases i with
  | none => simp [Nat.add_comm]
  | some c => simp
theorem B_times (g : Nat → Nat) : ∀ s : Row, B W (times t ws) s g = fun p => t ^ unk s * B W ws s g p
  | [] => by
    funext p
    simp [B, unk]
  | i :: r => by
    show A W (times t ws) i (B W (times t ws) r g) = _
    rw [B_times g r, A_times, unk_cons]
    funext p
    rw [A_mul]
    show _ * (_ * A W ws i (B W ws r g) p) = _ * A W ws i (B W ws r g) p
    rw [← Nat.mul_assoc, Nat.pow_add]
    congr 1
    cases i with
    | none => simp
    | some c => simp
theorem M_times (s : Row) (v : Nat) : M W (times t ws) s v = t ^ unk s * M W ws s v := by
  unfold M
  rw [B_times]
theorem whole_times (k : Nat) (s : Row) : whole (times t ws) k s = t ^ unk s * whole ws k s := by
  unfold whole
  rw [sumTo_times, Nat.mul_pow]
end
theorem sumTo_pos {ws : Nat → Nat} {k : Nat} (hk : 1 ≤ k) (hw : ∀ c < k, 0 < ws c) : 0 < sumTo ws k := by
  unfold sumTo
  obtain ⟨j, rfl⟩ : ∃ j, k = j + 1 := ⟨k - 1, by omega⟩
  rw [List.range_succ, List.map_append, List.sum_append]
  have := hw j (by omega)
  simp
  omega
theorem whole_pos {ws : Nat → Nat} {k : Nat} (hk : 1 ≤ k) (hw : ∀ c < k, 0 < ws c) (s : Row) : 0 < whole ws k s := Nat.pow_pos (sumTo_pos hk hw)
theorem M_pos_whole {W : Wt} {ws : Nat → Nat} (s : Row) : True := trivial

/-- the odds' table -/
def otab (W : Wt) (ws : Nat → Nat) (s : Row) (v : Nat) : Option (Nat × Nat) := if M W ws s v = 0 then none else some (frac (M W ws s v) (whole ws W.k s))
theorem otab_times {W : Wt} {ws : Nat → Nat} {t : Nat} (ht : 0 < t) (hk : 1 ≤ W.k) (hw : ∀ c < W.k, 0 < ws c) (s : Row) (v : Nat) : otab W (times t ws) s v = otab W ws s v := by
  unfold otab
  rw [M_times, whole_times]
  have tp : 0 < t ^ unk s := Nat.pow_pos ht
  by_cases h : M W ws s v = 0
  · rw [h, Nat.mul_zero, if_pos rfl, if_pos rfl]
  · have h2 : ¬ t ^ unk s * M W ws s v = 0 := Nat.mul_ne_zero (by omega) h
    rw [if_neg h, if_neg h2, frac_scale (whole_pos hk hw s) tp]

/-! ### two kinds that move alike -/
structure Alike (V W : Wt) (a b : Nat → Nat) : Prop where
  n : V.n = W.n
  wd : ∀ p < W.n, V.wd p = W.wd p
  mvOk : ∀ p < W.n, ∀ c < W.k, W.mv p c < W.n
  step : ∀ (g h : Nat → Nat) (p : Nat), p < W.n → (∀ q < W.n, g q = h q) → A V a none g p = A W b none h p
  sum : sumTo a V.k = sumTo b W.k
theorem A_some (W : Wt) (ws : Nat → Nat) (c : Nat) (g : Nat → Nat) (p : Nat) : A W ws (some c) g p = g (W.mv p c) := by
  simp [A, kindsOf, wOf]
/-- rows that go alike -/
def RowsAlike (V W : Wt) (s r : Row) : Prop := Paired2 s r
where Paired2 : Row → Row → Prop
  | [], [] => True
  | none :: s, none :: r => Paired2 s r
  | some c :: s, some d :: r => (∀ p < W.n, V.mv p c = W.mv p d) ∧ d < W.k ∧ Paired2 s r
  | _, _ => False
theorem B_alike {V W : Wt} {a b : Nat → Nat} (al : Alike V W a b) {g h : Nat → Nat} (gh : ∀ q < W.n, g q = h q) : ∀ (s r : Row), RowsAlike V W s r → ∀ p < W.n, B V a s g p = B W b r h p
  | [], [], _, p, hp => gh p hp
  | none :: s, none :: r, q, p, hp => al.step _ _ p hp (fun q' hq => B_alike al gh s r q q' hq)
  | some c :: s, some d :: r, q, p, hp => by
    show A V a (some c) (B V a s g) p = A W b (some d) (B W b r h) p
    rw [A_some, A_some, q.1 p hp]
    exact B_alike al gh s r q.2.2 _ (al.mvOk p hp d q.2.1)
  | [], none :: _, q, _, _ => q.elim
  | [], some _ :: _, q, _, _ => q.elim
  | none :: _, [], q, _, _ => q.elim
  | some _ :: _, [], q, _, _ => q.elim
  | none :: _, some _ :: _, q, _, _ => q.elim
  | some _ :: _, none :: _, q, _, _ => q.elim
theorem unk_alike {V W : Wt} : ∀ (s r : Row), RowsAlike V W s r → unk s = unk r
  | [], [], _ => rfl
  | none :: s, none :: r, q => by rw [unk_cons, unk_cons, unk_alike s r q] <;> rfl
  | some c :: s, some d :: r, q => by rw [unk_cons, unk_cons, unk_alike s r q.2.2] <;> rfl
  | [], none :: _, q => q.elim
  | [], some _ :: _, q => q.elim
  | none :: _, [], q => q.elim
  | some _ :: _, [], q => q.elim
  | none :: _, some _ :: _, q => q.elim
  | some _ :: _, none :: _, q => q.elim
theorem M_alike {V W : Wt} {a b : Nat → Nat} (al : Alike V W a b) (n1 : 1 ≤ W.n) (s r : Row) (h : RowsAlike V W s r) (v : Nat) : M V a s v = M W b r v :=
  B_alike al (fun q hq => by unfold ind; rw [al.wd q hq]) s r h 0 n1
theorem whole_alike {V W : Wt} {a b : Nat → Nat} (al : Alike V W a b) (s r : Row) (h : RowsAlike V W s r) : whole a V.k s = whole b W.k r := by
  unfold whole
  rw [al.sum, unk_alike s r h]
theorem otab_alike {V W : Wt} {a b : Nat → Nat} (al : Alike V W a b) (n1 : 1 ≤ W.n) (s r : Row) (h : RowsAlike V W s r) (v : Nat) : otab V a s v = otab W b r v := by
  unfold otab
  rw [M_alike al n1 s r h, whole_alike al s r h]
end Od
/-! ==== M62b ==== -/
namespace Od
section
variable {W : Wt} {ws : Nat → Nat}
theorem A_const (item : Option Nat) (c : Nat) : A W ws item (fun _ => c) = fun _ => (if item.isNone then sumTo ws W.k else 1) * c := by
  funext p
  cases item with
  | none =>
    unfold A
    show ((List.range W.k).map fun x => ws x * c).sum = sumTo ws W.k * c
    unfold sumTo
    rw [show (fun x => ws x * c) = fun x => c * ws x from funext fun x => Nat.mul_comm _ _, sum_mul_leftF, Nat.mul_comm]
  | some d => simp [A, kindsOf, wOf]
theorem B_one : ∀ s : Row, B W ws s (fun _ => 1) = fun _ => whole ws W.k s
  | [] => by
    funext p
    simp [B, whole, unk]
  | i :: r => by
    show A W ws i (B W ws r fun _ => 1) = _
    rw [B_one r, A_const]
    funext p
    unfold whole
    rw [unk_cons, Nat.pow_add]
    cases i <;> simp
theorem numbers_total (s : Row) : T (numbers W ws s) (fun _ => 1) = whole ws W.k s := by rw [numbers_T, B_one]
theorem mem_le_T {d : Dc} {e : Nat × Nat} (h : e ∈ d) : e.2 ≤ T d (fun _ => 1) := by
  induction d with
  | nil => cases h
  | cons a r ih =>
    rw [T_cons]
    rcases List.mem_cons.mp h with q | q
    · rw [q]
      omega
    · have := ih q
      omega
theorem numbers_le {s : Row} {e : Nat × Nat} (h : e ∈ numbers W ws s) : e.2 ≤ whole ws W.k s := by
  rw [← numbers_total]
  exact mem_le_T h
theorem unk_le (s : Row) : unk s ≤ s.length := List.length_filter_le _ _
theorem sumTo_le {f : Nat → Nat} {b : Nat} : ∀ {k : Nat}, (∀ c < k, f c ≤ b) → sumTo f k ≤ k * b
  | 0, _ => by simp [sumTo]
  | k + 1, h => by
    have := sumTo_le (k := k) fun c hc => h c (by omega)
    have h2 := h k (by omega)
    unfold sumTo at *
    rw [List.range_succ, List.map_append, List.sum_append, Nat.succ_mul]
    simp
    omega
theorem numbers_take (s : Row) {i : Nat} {x : Option Nat} (h : s[i]? = some x) : numbers W ws (s.take (i + 1)) = heavier W ws (numbers W ws (s.take i)) x := by
  unfold numbers
  rw [List.take_add_one, h, List.foldl_append]
  rfl
end
end Od
namespace Od
/-- the verdicts that have a number -/
def keysOf (m : Nat → Nat) : List Nat := (List.range 4).filter fun v => decide (m v ≠ 0)
def tabK (m : Nat → Nat) : Dc := (keysOf m).map fun v => (v, m v)
theorem mem_keysOf {m : Nat → Nat} {v : Nat} : v ∈ keysOf m ↔ v < 4 ∧ m v ≠ 0 := by simp [keysOf]
theorem keysOf_lt (m : Nat → Nat) : (keysOf m).Pairwise (· < ·) := List.Pairwise.filter _ List.pairwise_lt_range
theorem keysOf_nodup (m : Nat → Nat) : (keysOf m).Nodup := (keysOf_lt m).imp fun h => Nat.ne_of_lt h
theorem keys_sorted {m : Nat → Nat} {d : Dc} {ks : List Int} (nd : Nd d) (lt : ∀ e ∈ d, e.1 < 4) (hg : ∀ v, get d v = if m v = 0 then none else some (m v)) (hp : ks.Perm (d.map fun e => (e.1 : Int))) (hs : ks.Pairwise (· ≤ ·)) : ks = (keysOf m).map fun (v : Nat) => (v : Int) := by
  have e : (d.map fun e => (e.1 : Int)) = (d.map (·.1)).map fun (v : Nat) => (v : Int) := by rw [List.map_map]; rfl
  have p1 : (d.map (·.1)).Perm (keysOf m) := by
    refine (List.perm_ext_iff_of_nodup nd (keysOf_nodup m)).mpr fun v => ?_
    rw [mem_keysOf]
    have h := hg v
    constructor
    · intro hv
      obtain ⟨x, hx, rfl⟩ := List.mem_map.mp hv
      refine ⟨lt x hx, fun z => ?_⟩
      rw [if_pos z] at h
      exact get_none.mp h hv
    · rintro ⟨_, h2⟩
      rw [if_neg h2] at h
      exact List.mem_map.mpr ⟨_, get_mem h, rfl⟩
  have p2 : ks.Perm ((keysOf m).map fun (v : Nat) => (v : Int)) := hp.trans (by rw [e]; exact p1.map _)
  refine p2.eq_of_pairwise (fun a b _ _ h1 h2 => Int.le_antisymm h1 h2) hs ?_
  exact List.Pairwise.map _ (fun a b h => by omega) (keysOf_lt m)
theorem put_fresh {d : Dc} {k v : Nat} (h : k ∉ d.map (·.1)) : put d k v = d ++ [(k, v)] := put_new (get_none.mpr h)
end Od
/-! ==== M62c ==== -/
namespace Od
/-! ### words that may come, and beginnings that make sure -/
def ins1 (l : List Nat) (k : Nat) : List Nat := if k ∈ l then l else l ++ [k]
def insA (l ks : List Nat) : List Nat := ks.foldl ins1 l
def LW (W : Wt) : Nat → Nat → List Nat
  | 0, p => [W.wd p]
  | t + 1, p => (List.range W.k).foldl (fun l c => insA l (LW W t (W.mv p c))) []
def sureB (W : Wt) (t p : Nat) : Bool := decide ((LW W t p).length = 1)
theorem mem_ins1 {l : List Nat} {k x : Nat} : x ∈ ins1 l k ↔ x ∈ l ∨ x = k := by
  unfold ins1
  split
  · constructor
    · exact .inl
    · rintro (h | rfl)
      · exact h
      · assumption
  · simp
theorem mem_insA {x : Nat} : ∀ {ks l : List Nat}, x ∈ insA l ks ↔ x ∈ l ∨ x ∈ ks
  | [], l => by simp [insA]
  | k :: r, l => by
    show x ∈ insA (ins1 l k) r ↔ _
    rw [mem_insA (ks := r), mem_ins1, List.mem_cons, or_assoc]
theorem ins1_old {l : List Nat} {k : Nat} (h : k ∈ l) : ins1 l k = l := if_pos h
theorem insA_old : ∀ {ks l : List Nat}, (∀ k ∈ ks, k ∈ l) → insA l ks = l
  | [], l, _ => rfl
  | k :: r, l, h => by
    show insA (ins1 l k) r = l
    rw [ins1_old (h k List.mem_cons_self), insA_old fun x hx => h x (List.mem_cons_of_mem _ hx)]
theorem mem_foldA {x : Nat} (f : Nat → List Nat) : ∀ {cs l : List Nat}, x ∈ cs.foldl (fun l c => insA l (f c)) l ↔ x ∈ l ∨ ∃ c ∈ cs, x ∈ f c
  | [], l => by simp
  | c :: r, l => by
    rw [List.foldl_cons, mem_foldA f (cs := r), mem_insA]
    simp only [List.mem_cons]
    constructor
    · rintro ((h | h) | ⟨d, hd, h⟩)
      · exact .inl h
      · exact .inr ⟨c, .inl rfl, h⟩
      · exact .inr ⟨d, .inr hd, h⟩
    · rintro (h | ⟨d, rfl | hd, h⟩)
      · exact .inl (.inl h)
      · exact .inl (.inr h)
      · exact .inr ⟨d, hd, h⟩
theorem ins1_nodup {l : List Nat} {k : Nat} (h : l.Nodup) : (ins1 l k).Nodup := by
  unfold ins1
  split
  · exact h
  · rw [List.nodup_append]
    refine ⟨h, by simp, fun a ha b hb => ?_⟩
    rw [List.mem_singleton.mp hb]
    rintro rfl
    contradiction
theorem insA_nodup : ∀ {ks l : List Nat}, l.Nodup → (insA l ks).Nodup
  | [], _, h => h
  | _ :: r, _, h => insA_nodup (ks := r) (ins1_nodup h)
theorem foldA_nodup (f : Nat → List Nat) : ∀ {cs l : List Nat}, l.Nodup → (cs.foldl (fun l c => insA l (f c)) l).Nodup
  | [], _, h => h
  | _ :: r, _, h => foldA_nodup f (cs := r) (insA_nodup h)
theorem LW_nodup (W : Wt) (t p : Nat) : (LW W t p).Nodup := by
  cases t with
  | zero => simp [LW]
  | succ t => exact foldA_nodup _ (by simp)
theorem LW_lt {W : Wt} (ok : W.Ok) : ∀ {t p x : Nat}, p < W.n → x ∈ LW W t p → x < 4
  | 0, p, x, hp, h => by
    have : x = W.wd p := by simpa [LW] using h
    rw [this]
    exact Nat.lt_succ_of_le (ok.wd p hp)
  | t + 1, p, x, hp, h => by
    rcases (mem_foldA _).mp h with h | ⟨c, hc, h⟩
    · cases h
    · exact LW_lt ok (ok.mv p hp c (List.mem_range.mp hc)) h
/-- the line of the unsure, event by event -/
def lineD (W : Wt) (ws : Nat → Nat) (len : Nat) : Nat → Dc
  | 0 => [(0, 1)]
  | i + 1 => heavier W ws ((lineD W ws len i).filter fun e => !sureB W (len - i) e.1) none
def foundN (W : Wt) (ws : Nat → Nat) (len i : Nat) : Nat := T ((lineD W ws len i).filter fun e => sureB W (len - i) e.1) (fun _ => 1) * sumTo ws W.k ^ (len - i)
theorem T_filter (q : Nat → Bool) (g : Nat → Nat) : ∀ d : Dc, T (d.filter fun e => q e.1) g = T d (fun p => if q p = true then g p else 0)
  | [] => rfl
  | e :: r => by
    rw [List.filter_cons, T_cons]
    by_cases h : q e.1 = true
    · rw [if_pos h, T_cons, T_filter q g r, if_pos h]
    · rw [if_neg h, T_filter q g r, if_neg h, Nat.mul_zero, Nat.zero_add]
section
variable {W : Wt} {ws : Nat → Nat}
theorem good_filter {n : Nat} {d : Dc} (q : Nat × Nat → Bool) (g : Good n d) : Good n (d.filter q) := ⟨(List.Sublist.map _ List.filter_sublist).nodup g.nd, fun e he => g.ps e (List.mem_filter.mp he).1, fun e he => g.lt e (List.mem_filter.mp he).1⟩
theorem line_good (ok : W.Ok) (hw : ∀ c < W.k, 0 < ws c) (len : Nat) : ∀ i, Good W.n (lineD W ws len i)
  | 0 => good_one.mono ok.n1
  | i + 1 => heavier_good ok hw (fun c e => by cases e) (good_filter _ (line_good ok hw len i))
theorem T_le {d : Dc} {g h : Nat → Nat} (z : ∀ p, g p ≤ h p) : T d g ≤ T d h := by
  induction d with
  | nil => exact Nat.le_refl _
  | cons e r ih =>
    rw [T_cons, T_cons]
    have := Nat.mul_le_mul_left e.2 (z e.1)
    omega
theorem line_le (len : Nat) : ∀ i, T (lineD W ws len i) (fun _ => 1) ≤ sumTo ws W.k ^ i
  | 0 => by simp [lineD, T]
  | i + 1 => by
    show T (heavier W ws _ none) (fun _ => 1) ≤ _
    rw [heavier_T, A_const, T_filter (fun p => !sureB W (len - i) p)]
    have h1 : T (lineD W ws len i) (fun p => if (!sureB W (len - i) p) = true then (if (none : Option Nat).isNone then sumTo ws W.k else 1) * 1 else 0) ≤ T (lineD W ws len i) (fun p => sumTo ws W.k * 1) := T_le fun p => by
      split
      · exact Nat.le_refl _
      · omega
    rw [T_mul] at h1
    have h2 := Nat.mul_le_mul_left (sumTo ws W.k) (line_le len i)
    rw [Nat.pow_succ, Nat.mul_comm (sumTo ws W.k ^ i)]
    omega
theorem found_le (len i : Nat) (hi : i ≤ len) : foundN W ws len i ≤ sumTo ws W.k ^ len := by
  unfold foundN
  rw [T_filter (fun p => sureB W (len - i) p)]
  have h1 : T (lineD W ws len i) (fun p => if sureB W (len - i) p = true then 1 else 0) ≤ T (lineD W ws len i) (fun _ => 1) := T_le fun p => by split <;> omega
  have h2 := Nat.mul_le_mul_right (sumTo ws W.k ^ (len - i)) (Nat.le_trans h1 (line_le (W := W) (ws := ws) len i))
  rw [← Nat.pow_add, Nat.add_sub_cancel' hi] at h2
  exact h2
/-! weights times a number -/
theorem line_times (t len : Nat) : ∀ (i : Nat) (g : Nat → Nat), T (lineD W (times t ws) len i) g = t ^ i * T (lineD W ws len i) g
  | 0, g => by simp [lineD]
  | i + 1, g => by
    show T (heavier W (times t ws) _ none) g = _ * T (heavier W ws _ none) g
    rw [heavier_T, heavier_T, T_filter (fun p => !sureB W (len - i) p), T_filter (fun p => !sureB W (len - i) p), line_times t len i, A_times]
    rw [show (fun p => if (!sureB W (len - i) p) = true then (fun p => (if (none : Option Nat).isNone then t else 1) * A W ws none g p) p else 0) = fun p => t * (if (!sureB W (len - i) p) = true then A W ws none g p else 0) from funext fun p => by
      split
      · rfl
      · rfl, T_mul, Nat.pow_succ, Nat.mul_assoc]
theorem found_times (t len i : Nat) (hi : i ≤ len) : foundN W (times t ws) len i = t ^ len * foundN W ws len i := by
  unfold foundN
  rw [T_filter (fun p => sureB W (len - i) p), T_filter (fun p => sureB W (len - i) p), line_times, sumTo_times, Nat.mul_pow]
  rw [show t ^ len = t ^ i * t ^ (len - i) by rw [← Nat.pow_add, Nat.add_sub_cancel' hi]]
  simp [Nat.mul_comm, Nat.mul_left_comm, Nat.mul_assoc]
end
/-! kinds made one -/
theorem LW_alike {V W : Wt} (n : V.n = W.n) (wd : ∀ p < W.n, V.wd p = W.wd p) (k : V.k = W.k + 1) (k1 : 1 ≤ W.k) (mv : ∀ p < W.n, ∀ c < W.k, V.mv p c = W.mv p c) (last : ∀ p < W.n, V.mv p W.k = W.mv p 0) (lt : ∀ p < W.n, ∀ c < W.k, W.mv p c < W.n) : ∀ (t p : Nat), p < W.n → LW V t p = LW W t p
  | 0, p, hp => by simp [LW, wd p hp]
  | t + 1, p, hp => by
    show (List.range V.k).foldl (fun l c => insA l (LW V t (V.mv p c))) [] = (List.range W.k).foldl (fun l c => insA l (LW W t (W.mv p c))) []
    rw [k, List.range_succ, List.foldl_append]
    have e : (List.range W.k).foldl (fun l c => insA l (LW V t (V.mv p c))) [] = (List.range W.k).foldl (fun l c => insA l (LW W t (W.mv p c))) [] := by
      have go : ∀ (cs l : List Nat), (∀ c ∈ cs, c < W.k) → cs.foldl (fun l c => insA l (LW V t (V.mv p c))) l = cs.foldl (fun l c => insA l (LW W t (W.mv p c))) l := by
        intro cs
        induction cs with
        | nil => intro l _; rfl
        | cons c r ih =>
          intro l h
          rw [List.foldl_cons, List.foldl_cons, mv p hp c (h c List.mem_cons_self), LW_alike n wd k k1 mv last lt t _ (lt p hp c (h c List.mem_cons_self)), ih _ fun x hx => h x (List.mem_cons_of_mem _ hx)]
      exact go _ _ fun c hc => List.mem_range.mp hc
    rw [e]
    show insA _ (LW V t (V.mv p W.k)) = _
    rw [last p hp, LW_alike n wd k k1 mv last lt t _ (lt p hp 0 k1)]
    exact insA_old fun x hx => (mem_foldA _).mpr (.inr ⟨0, List.mem_range.mpr k1, hx⟩)
theorem line_alike {V W : Wt} {a b : Nat → Nat} (al : Alike V W a b) (ok : W.Ok) (hb : ∀ c < W.k, 0 < b c) (hs : ∀ t p, p < W.n → sureB V t p = sureB W t p) (len : Nat) : ∀ (i : Nat) (g h : Nat → Nat), (∀ q < W.n, g q = h q) → T (lineD V a len i) g = T (lineD W b len i) h
  | 0, g, h, gh => by
    show T [(0, 1)] g = T [(0, 1)] h
    simp [T, gh 0 ok.n1]
  | i + 1, g, h, gh => by
    show T (heavier V a _ none) g = T (heavier W b _ none) h
    rw [heavier_T, heavier_T, T_filter (fun p => !sureB V (len - i) p), T_filter (fun p => !sureB W (len - i) p)]
    refine line_alike al ok hb hs len i _ _ fun q hq => ?_
    rw [hs _ q hq, al.step g h q hq gh]
theorem found_alike {V W : Wt} {a b : Nat → Nat} (al : Alike V W a b) (ok : W.Ok) (hb : ∀ c < W.k, 0 < b c) (hs : ∀ t p, p < W.n → sureB V t p = sureB W t p) (len i : Nat) : foundN V a len i = foundN W b len i := by
  unfold foundN
  rw [T_filter (fun p => sureB V (len - i) p), T_filter (fun p => sureB W (len - i) p), al.sum, line_alike al ok hb hs len i _ (fun p => if sureB W (len - i) p = true then 1 else 0) fun q hq => by rw [hs _ q hq]]
end Od
namespace Od
theorem LW_ne {W : Wt} (ok : W.Ok) : ∀ (t p : Nat), p < W.n → ∃ x, x ∈ LW W t p
  | 0, p, _ => ⟨W.wd p, by simp [LW]⟩
  | t + 1, p, hp => by
    obtain ⟨x, hx⟩ := LW_ne ok t _ (ok.mv p hp 0 ok.k1)
    exact ⟨x, (mem_foldA _).mpr (.inr ⟨0, List.mem_range.mpr ok.k1, hx⟩)⟩
theorem filter_take {α : Type} (q : α → Bool) (l : List α) {i : Nat} {x : α} (h : l[i]? = some x) : (l.take (i + 1)).filter q = if q x = true then (l.take i).filter q ++ [x] else (l.take i).filter q := by
  rw [List.take_add_one, h, List.filter_append]
  by_cases hq : q x = true
  · rw [if_pos hq]
    simp [hq]
  · rw [if_neg hq]
    simp [hq]
theorem T_one (d : Dc) : T d (fun _ => 1) = (d.map fun e => e.2).sum := by
  unfold T
  congr 1
  apply List.map_congr_left
  intro e _
  exact Nat.mul_one _
end Od
/-! ==== M62d ==== -/
namespace Od
/-- the greatest number and its first verdict -/
def gm (m : Nat → Nat) : Nat := max (max (m 0) (m 1)) (max (m 2) (m 3))
def gw (m : Nat → Nat) : Nat := ((keysOf m).find? fun v => decide (m v = gm m)).getD 0
theorem lt4 {v : Nat} (h : v < 4) : v = 0 ∨ v = 1 ∨ v = 2 ∨ v = 3 := by omega
theorem le_gm {m : Nat → Nat} {v : Nat} (h : v < 4) : m v ≤ gm m := by
  unfold gm
  rcases lt4 h with rfl | rfl | rfl | rfl <;> omega
theorem gm_at (m : Nat → Nat) : ∃ v, v < 4 ∧ m v = gm m := by
  unfold gm
  by_cases h1 : m 1 ≤ m 0 <;> by_cases h2 : m 3 ≤ m 2 <;> by_cases h3 : max (m 2) (m 3) ≤ max (m 0) (m 1)
  · exact ⟨0, by omega, by omega⟩
  · exact ⟨2, by omega, by omega⟩
  · exact ⟨0, by omega, by omega⟩
  · exact ⟨3, by omega, by omega⟩
  · exact ⟨1, by omega, by omega⟩
  · exact ⟨2, by omega, by omega⟩
  · exact ⟨1, by omega, by omega⟩
  · exact ⟨3, by omega, by omega⟩
theorem gm_unique {m : Nat → Nat} {x : Int} (h1 : ∃ v ∈ keysOf m, ((m v : Nat) : Int) = x) (h2 : ∀ v ∈ keysOf m, ((m v : Nat) : Int) ≤ x) : x = ((gm m : Nat) : Int) := by
  obtain ⟨v, hv, rfl⟩ := h1
  obtain ⟨u, hu, e⟩ := gm_at m
  have a1 := le_gm (m := m) (mem_keysOf.mp hv).1
  by_cases z : m u = 0
  · omega
  · have := h2 u (mem_keysOf.mpr ⟨hu, z⟩)
    omega
theorem gm_mem {m : Nat → Nat} (h : keysOf m ≠ []) : ∃ v ∈ keysOf m, m v = gm m := by
  obtain ⟨u, hu, e⟩ := gm_at m
  by_cases z : m u = 0
  · obtain ⟨v, hv⟩ := List.exists_mem_of_ne_nil _ h
    have := mem_keysOf.mp hv
    have := le_gm (m := m) this.1
    omega
  · exact ⟨u, mem_keysOf.mpr ⟨hu, z⟩, e⟩
theorem gw_head {m : Nat → Nat} (h : keysOf m ≠ []) : ((keysOf m).filter fun v => decide (m v = gm m))[0]? = some (gw m) := by
  have e : ∀ (q : Nat → Bool) (l : List Nat), (l.filter q)[0]? = l.find? q := by
    intro q l
    induction l with
    | nil => rfl
    | cons a r ih =>
      rw [List.filter_cons, List.find?_cons]
      by_cases hq : q a = true
      · rw [if_pos hq, hq]
        rfl
      · rw [if_neg hq, ih]
        cases hq2 : q a
        · rfl
        · exact absurd hq2 hq
  rw [e]
  obtain ⟨v, hv, hm⟩ := gm_mem h
  unfold gw
  cases q : (keysOf m).find? fun v => decide (m v = gm m) with
  | none =>
    have := List.find?_eq_none.mp q v hv
    simp [hm] at this
  | some x => rfl
theorem keysOf_mul {m : Nat → Nat} {t : Nat} (ht : 0 < t) : keysOf (fun v => t * m v) = keysOf m := by
  unfold keysOf
  congr 1
  funext v
  by_cases h : m v = 0
  · simp [h]
  · have : ¬ t * m v = 0 := Nat.mul_ne_zero (by omega) h
    rw [decide_eq_true this, decide_eq_true h]
theorem gm_mul {m : Nat → Nat} {t : Nat} : gm (fun v => t * m v) = t * gm m := by
  unfold gm
  rw [Nat.mul_max_mul_left, Nat.mul_max_mul_left, Nat.mul_max_mul_left]
theorem gw_mul {m : Nat → Nat} {t : Nat} (ht : 0 < t) : gw (fun v => t * m v) = gw m := by
  unfold gw
  rw [keysOf_mul ht, gm_mul]
  congr 2
  funext v
  by_cases h : m v = gm m
  · rw [decide_eq_true h, decide_eq_true (show t * m v = t * gm m by rw [h])]
  · have : ¬ t * m v = t * gm m := fun z => h (Nat.eq_of_mul_eq_mul_left ht z)
    rw [decide_eq_false this, decide_eq_false h]
section
variable {W : Wt} {ws : Nat → Nat}
theorem keysOf_M (ok : W.Ok) (hw : ∀ c < W.k, 0 < ws c) {s : Row} (hs : Row.Ok W.k s) : keysOf (M W ws s) ≠ [] := by
  have h1 : T (wordsD W (numbers W ws s)) (fun _ => 1) = whole ws W.k s := by rw [wordsD_T, numbers_total]
  have h2 := whole_pos ok.k1 hw s
  cases q : wordsD W (numbers W ws s) with
  | nil =>
    rw [q, T_nil] at h1
    omega
  | cons e r =>
    have gd := wordsD_good ok (numbers_good ok hw hs)
    have he : (e.1, e.2) ∈ wordsD W (numbers W ws s) := by
      rw [q]
      exact List.mem_cons_self
    have hg := mem_get gd.nd he
    rw [words_get ok hw hs] at hg
    intro z
    have : e.1 ∈ keysOf (M W ws s) := mem_keysOf.mpr ⟨gd.lt _ he, fun y => by rw [if_pos y] at hg; cases hg⟩
    rw [z] at this
    cases this
theorem M_le (ok : W.Ok) (s : Row) (v : Nat) : M W ws s v ≤ whole ws W.k s := by
  have h : T (numbers W ws s) (ind W v) ≤ T (numbers W ws s) (fun _ => 1) := T_le fun p => by
    unfold ind
    split <;> omega
  rw [numbers_T, numbers_total] at h
  exact h
theorem gm_le (ok : W.Ok) (s : Row) : gm (M W ws s) ≤ whole ws W.k s := by
  obtain ⟨v, _, e⟩ := gm_at (M W ws s)
  rw [← e]
  exact M_le ok s v
/-- the row with a place known -/
def kn (s : Row) (p c : Nat) : Row := s.set p (some c)
theorem kn_len (s : Row) (p c : Nat) : (kn s p c).length = s.length := List.length_set ..
theorem kn_ok {k : Nat} {s : Row} {p c : Nat} (h : Row.Ok k s) (hc : c < k) : Row.Ok k (kn s p c) := fun d hd => by
  rcases List.mem_or_eq_of_mem_set hd with h1 | h1
  · exact h d h1
  · rw [Option.some.inj h1]
    exact hc
theorem unk_kn (s : Row) (p c d : Nat) : unk (kn s p c) = unk (kn s p d) := by
  unfold kn
  induction s generalizing p with
  | nil => rfl
  | cons a r ih =>
    cases p with
    | zero => rw [List.set_cons_zero, List.set_cons_zero, unk_cons, unk_cons]; rfl
    | succ p => rw [List.set_cons_succ, List.set_cons_succ, unk_cons, unk_cons, ih p]
theorem whole_kn (k : Nat) (s : Row) (p c d : Nat) : whole ws k (kn s p c) = whole ws k (kn s p d) := by
  unfold whole
  rw [unk_kn s p c d]
def gtop (W : Wt) (ws : Nat → Nat) (s : Row) (p n : Nat) : Nat := sumTo (fun c => ws c * gm (M W ws (kn s p c))) n
def guessF (W : Wt) (ws : Nat → Nat) (s : Row) (p : Nat) : Nat × Nat := frac (gtop W ws s p W.k) (whole ws W.k (kn s p 0) * sumTo ws W.k)
theorem sumTo_succ (f : Nat → Nat) (n : Nat) : sumTo f (n + 1) = sumTo f n + f n := by
  unfold sumTo
  rw [List.range_succ, List.map_append, List.sum_append]
  simp
theorem sumTo_le2 {f g : Nat → Nat} : ∀ {n : Nat}, (∀ c < n, f c ≤ g c) → sumTo f n ≤ sumTo g n
  | 0, _ => Nat.le_refl _
  | n + 1, h => by
    rw [sumTo_succ, sumTo_succ]
    have := sumTo_le2 (n := n) fun c hc => h c (by omega)
    have := h n (by omega)
    omega
theorem sumTo_mulr (f : Nat → Nat) (b : Nat) : ∀ n, sumTo (fun c => f c * b) n = sumTo f n * b
  | 0 => by simp [sumTo]
  | n + 1 => by rw [sumTo_succ, sumTo_succ, sumTo_mulr f b n, Nat.add_mul]
theorem sumTo_mull (f : Nat → Nat) (b : Nat) (n : Nat) : sumTo (fun c => b * f c) n = b * sumTo f n := sum_mul_leftF b f _
theorem sumTo_congr {f g : Nat → Nat} {n : Nat} (h : ∀ c < n, f c = g c) : sumTo f n = sumTo g n := by
  unfold sumTo
  congr 1
  exact List.map_congr_left fun c hc => h c (List.mem_range.mp hc)
theorem gtop_le (ok : W.Ok) (s : Row) (p : Nat) {n : Nat} : gtop W ws s p n ≤ sumTo ws n * whole ws W.k (kn s p 0) := by
  unfold gtop
  rw [← sumTo_mulr]
  refine sumTo_le2 fun c _ => Nat.mul_le_mul_left _ ?_
  rw [whole_kn W.k s p 0 c]
  exact gm_le ok _
theorem M_times_fun (t : Nat) (s : Row) : M W (times t ws) s = fun v => t ^ unk s * M W ws s v := funext fun v => M_times s v
theorem guessF_times {t : Nat} (ht : 0 < t) (hk : 1 ≤ W.k) (hw : ∀ c < W.k, 0 < ws c) (s : Row) (p : Nat) : guessF W (times t ws) s p = guessF W ws s p := by
  unfold guessF
  have e1 : gtop W (times t ws) s p W.k = (t ^ unk (kn s p 0) * t) * gtop W ws s p W.k := by
    unfold gtop
    rw [← sumTo_mull]
    refine sumTo_congr fun c _ => ?_
    rw [M_times_fun, gm_mul, unk_kn s p c 0]
    show t * ws c * _ = _
    simp [Nat.mul_comm, Nat.mul_left_comm, Nat.mul_assoc]
  rw [e1, whole_times, sumTo_times, show t ^ unk (kn s p 0) * whole ws W.k (kn s p 0) * (t * sumTo ws W.k) = (t ^ unk (kn s p 0) * t) * (whole ws W.k (kn s p 0) * sumTo ws W.k) by simp [Nat.mul_comm, Nat.mul_left_comm, Nat.mul_assoc]]
  exact frac_scale (Nat.mul_pos (whole_pos hk hw _) (sumTo_pos hk hw)) (Nat.mul_pos (Nat.pow_pos ht) ht)
end
def above (a b : Nat × Nat) : Bool := decide (b.1 * a.2 < a.1 * b.2)
def mtStep (W : Wt) (ws : Nat → Nat) (s : Row) (found : Option (Nat × (Nat × Nat))) (p : Nat) : Option (Nat × (Nat × Nat)) :=
  if s[p]? = some none then (match found with
    | none => some (p, guessF W ws s p)
    | some (q, f) => if above (guessF W ws s p) f = true then some (p, guessF W ws s p) else some (q, f)) else found
def mt (W : Wt) (ws : Nat → Nat) (s : Row) (n : Nat) : Option (Nat × (Nat × Nat)) := (List.range n).foldl (mtStep W ws s) none
theorem mt_succ (W : Wt) (ws : Nat → Nat) (s : Row) (n : Nat) : mt W ws s (n + 1) = mtStep W ws s (mt W ws s n) n := by
  unfold mt
  rw [List.range_succ, List.foldl_append]
  rfl
theorem mt_times {W : Wt} {ws : Nat → Nat} {t : Nat} (ht : 0 < t) (hk : 1 ≤ W.k) (hw : ∀ c < W.k, 0 < ws c) (s : Row) : ∀ n, mt W (times t ws) s n = mt W ws s n
  | 0 => rfl
  | n + 1 => by
    rw [mt_succ, mt_succ, mt_times ht hk hw s n]
    unfold mtStep
    rw [guessF_times ht hk hw]
theorem gw_M_times {W : Wt} {ws : Nat → Nat} {t : Nat} (ht : 0 < t) (s : Row) : gw (M W (times t ws) s) = gw (M W ws s) := by
  rw [M_times_fun]
  exact gw_mul (Nat.pow_pos ht)
end Od
/-! ==== M62e ==== -/
namespace Od
/-- one lap of Euclid's: the product falls to its half -/
theorem lap_half {x y : Nat} (hxy : y < x) (hy : 0 < y) : y * (x % y) * 2 ≤ x * y := by
  have h1 := Nat.mod_lt x hy
  have h2 : x % y + y ≤ x := by
    have := Nat.div_add_mod x y
    have hq : 1 ≤ x / y := (Nat.le_div_iff_mul_le hy).mpr (by omega)
    have : y * 1 ≤ y * (x / y) := Nat.mul_le_mul_left y hq
    omega
  have h3 : (x % y) * 2 ≤ x := by omega
  have h4 := Nat.mul_le_mul_left y h3
  rw [Nat.mul_comm x y, Nat.mul_assoc]
  exact h4
def sumF (fs : List (Nat × Nat)) : Nat × Nat := fs.foldl (fun t f => (t.1 * f.2 + f.1 * t.2, t.2 * f.2)) (0, 1)
theorem sumF_snoc (fs : List (Nat × Nat)) (f : Nat × Nat) : sumF (fs ++ [f]) = ((sumF fs).1 * f.2 + f.1 * (sumF fs).2, (sumF fs).2 * f.2) := by
  unfold sumF
  rw [List.foldl_append]
  rfl
theorem sumF_pos {fs : List (Nat × Nat)} (h : ∀ f ∈ fs, 0 < f.2) : 0 < (sumF fs).2 := by
  have go : ∀ (fs : List (Nat × Nat)) (t : Nat × Nat), (∀ f ∈ fs, 0 < f.2) → 0 < t.2 → 0 < (fs.foldl (fun t f => (t.1 * f.2 + f.1 * t.2, t.2 * f.2)) t).2 := by
    intro fs
    induction fs with
    | nil => intro t _ ht; exact ht
    | cons f r ih => intro t hf ht; exact ih _ (fun x hx => hf x (List.mem_cons_of_mem _ hx)) (Nat.mul_pos ht (hf f List.mem_cons_self))
  exact go fs _ h (by decide)
/-- of at most two -/
theorem sumF_lt {fs : List (Nat × Nat)} {b : Nat} (hl : fs.length ≤ 2) (h : ∀ f ∈ fs, f.1 < 2 ^ b ∧ f.2 < 2 ^ b) : (sumF fs).1 < 2 ^ (b + b + 2) ∧ (sumF fs).2 < 2 ^ (b + b + 2) := by
  have e0 : (1 : Nat) ≤ 2 ^ b := Nat.one_le_two_pow
  have e2 : (2 : Nat) ^ (b + b + 2) = 2 ^ b * 2 ^ b * 4 := by rw [Nat.pow_add, Nat.pow_add]
  have e3 : 2 ^ b ≤ 2 ^ b * 2 ^ b := Nat.le_mul_of_pos_left _ (by omega)
  match fs, hl, h with
  | [], _, _ =>
    show 0 < _ ∧ 1 < _
    rw [e2]
    omega
  | [f], _, h =>
    have := h f List.mem_cons_self
    show 0 * f.2 + f.1 * 1 < _ ∧ 1 * f.2 < _
    rw [e2]
    omega
  | [f, g], _, h =>
    have h1 := h f List.mem_cons_self
    have h2 := h g (List.mem_cons_of_mem _ List.mem_cons_self)
    show (0 * f.2 + f.1 * 1) * g.2 + g.1 * (1 * f.2) < _ ∧ 1 * f.2 * g.2 < _
    have a1 : f.1 * g.2 ≤ 2 ^ b * 2 ^ b := Nat.mul_le_mul (Nat.le_of_lt h1.1) (Nat.le_of_lt h2.2)
    have a2 : g.1 * f.2 ≤ 2 ^ b * 2 ^ b := Nat.mul_le_mul (Nat.le_of_lt h2.1) (Nat.le_of_lt h1.2)
    have a3 : f.2 * g.2 ≤ 2 ^ b * 2 ^ b := Nat.mul_le_mul (Nat.le_of_lt h1.2) (Nat.le_of_lt h2.2)
    rw [e2]
    simp only [Nat.zero_mul, Nat.zero_add, Nat.mul_one, Nat.one_mul]
    omega
  | _ :: _ :: _ :: _, hl, _ => simp at hl
end Od
/-! ==== M62f ==== -/
namespace Od
/-! ### begun at another place -/
def nm (place : Nat) : Nat → Nat := fun p => if p = place then 0 else if p = 0 then place else p
theorem nm_nm (place p : Nat) : nm place (nm place p) = p := by
  unfold nm
  by_cases h1 : p = place
  · rw [if_pos h1]
    by_cases h2 : (0 : Nat) = place
    · rw [if_pos h2]
      omega
    · rw [if_neg h2, if_pos rfl]
      omega
  · rw [if_neg h1]
    by_cases h2 : p = 0
    · rw [if_pos h2, if_pos rfl]
      omega
    · rw [if_neg h2, if_neg h1, if_neg h2]
theorem nm_lt {place n p : Nat} (hp : p < n) (hpl : place < n) : nm place p < n := by
  unfold nm
  split
  · omega
  · split <;> omega
theorem nm_zero (place : Nat) : nm place 0 = place := by
  unfold nm
  split
  · omega
  · rw [if_pos rfl]
def beg (W : Wt) (place : Nat) : Wt := ⟨W.n, W.k, fun p c => nm place (W.mv (nm place p) c), fun p => W.wd (nm place p)⟩
theorem beg_ok {W : Wt} (ok : W.Ok) {place : Nat} (h : place < W.n) : (beg W place).Ok := ⟨ok.n1, ok.n6, ok.k1, ok.k4, fun p hp c hc => nm_lt (ok.mv _ (nm_lt hp h) c hc) h, fun p hp => ok.wd _ (nm_lt hp h)⟩
theorem B_beg (W : Wt) (ws : Nat → Nat) (place : Nat) : ∀ (s : Row) (g : Nat → Nat) (q : Nat), B (beg W place) ws s (fun p => g (nm place p)) q = B W ws s g (nm place q)
  | [], g, q => rfl
  | i :: r, g, q => by
    show A (beg W place) ws i (B (beg W place) ws r fun p => g (nm place p)) q = A W ws i (B W ws r g) (nm place q)
    rw [show (B (beg W place) ws r fun p => g (nm place p)) = fun p => B W ws r g (nm place p) from funext fun p => B_beg W ws place r g p]
    unfold A
    congr 1
    apply List.map_congr_left
    intro c _
    show wOf ws i c * B W ws r g (nm place (nm place (W.mv (nm place q) c))) = _
    rw [nm_nm]
theorem M_beg (W : Wt) (ws : Nat → Nat) (place : Nat) (s : Row) (v : Nat) : M (beg W place) ws s v = B W ws s (ind W v) place := by
  unfold M
  have := B_beg W ws place s (ind W v) 0
  rw [nm_zero] at this
  exact this
/-- the sum, place by place -/
def Nn (W : Wt) (ws : Nat → Nat) (s : Row) (d : Dc) (v : Nat) : Nat := T d (fun p => M (beg W p) ws s v)
theorem Nn_all (W : Wt) (ws : Nat → Nat) (r s : Row) (v : Nat) : Nn W ws s (numbers W ws r) v = M W ws (r ++ s) v := by
  unfold Nn
  rw [show (fun p => M (beg W p) ws s v) = B W ws s (ind W v) from funext fun p => M_beg W ws p s v, numbers_T]
  unfold M
  rw [B_app]
theorem unk_app (r s : Row) : unk (r ++ s) = unk r + unk s := by
  unfold unk
  rw [List.filter_append, List.length_append]
theorem whole_app (ws : Nat → Nat) (k : Nat) (r s : Row) : whole ws k (r ++ s) = whole ws k r * whole ws k s := by
  unfold whole
  rw [unk_app, Nat.pow_add]
/-- a table of fractions of one whole -/
def tabN (N : Nat → Nat) (w : Nat) (v : Nat) : Option (Nat × Nat) := if N v = 0 then none else some (frac (N v) w)
theorem tabN_all (W : Wt) (ws : Nat → Nat) (r s : Row) : tabN (Nn W ws s (numbers W ws r)) (whole ws W.k r * whole ws W.k s) = otab W ws (r ++ s) := by
  funext v
  unfold tabN otab
  rw [Nn_all, whole_app]
theorem frac_pos1 {a b : Nat} (ha : 0 < a) : 0 < (frac a b).1 := Nat.div_pos (Nat.le_of_dvd ha (Nat.gcd_dvd_left a b)) (Nat.gcd_pos_of_pos_left _ ha)
/-- one part by itself, and beside what is there -/
theorem sum_one {f m w1 w2 : Nat} (h1 : 0 < w1) (h2 : 0 < w2) : frac (sumF [(f * (frac m w2).1, w1 * (frac m w2).2)]).1 (sumF [(f * (frac m w2).1, w1 * (frac m w2).2)]).2 = frac (f * m) (w1 * w2) := by
  have c := frac_cross (a := m) (b := w2)
  have p2 := frac_pos (a := m) h2
  show frac (0 * (w1 * (frac m w2).2) + f * (frac m w2).1 * 1) (1 * (w1 * (frac m w2).2)) = _
  rw [Nat.zero_mul, Nat.zero_add, Nat.mul_one, Nat.one_mul]
  refine frac_eq (Nat.mul_pos h1 p2) (Nat.mul_pos h1 h2) ?_
  rw [show f * (frac m w2).1 * (w1 * w2) = f * w1 * ((frac m w2).1 * w2) by simp [Nat.mul_comm, Nat.mul_left_comm, Nat.mul_assoc], c]
  simp [Nat.mul_comm, Nat.mul_left_comm, Nat.mul_assoc]
theorem sum_two {f m n w1 w2 : Nat} (h1 : 0 < w1) (h2 : 0 < w2) : frac (sumF [(f * (frac m w2).1, w1 * (frac m w2).2), frac n (w1 * w2)]).1 (sumF [(f * (frac m w2).1, w1 * (frac m w2).2), frac n (w1 * w2)]).2 = frac (n + f * m) (w1 * w2) := by
  have c := frac_cross (a := m) (b := w2)
  have p2 := frac_pos (a := m) h2
  have w0 := Nat.mul_pos h1 h2
  have cn := frac_cross (a := n) (b := w1 * w2)
  have pn := frac_pos (a := n) w0
  generalize hx : (frac m w2).1 = x at *
  generalize hy : (frac m w2).2 = y at *
  generalize hu : (frac n (w1 * w2)).1 = u at *
  generalize hv : (frac n (w1 * w2)).2 = z at *
  have e1 : (sumF [(f * x, w1 * y), frac n (w1 * w2)]).1 = f * x * z + u * (w1 * y) := by
    show (0 * (w1 * y) + f * x * 1) * (frac n (w1 * w2)).2 + (frac n (w1 * w2)).1 * (1 * (w1 * y)) = _
    rw [hu, hv, Nat.zero_mul, Nat.zero_add, Nat.mul_one, Nat.one_mul]
  have e2 : (sumF [(f * x, w1 * y), frac n (w1 * w2)]).2 = w1 * y * z := by
    show 1 * (w1 * y) * (frac n (w1 * w2)).2 = _
    rw [hv, Nat.one_mul]
  rw [e1, e2]
  refine frac_eq (Nat.mul_pos (Nat.mul_pos h1 p2) pn) w0 ?_
  rw [Nat.add_mul, Nat.add_mul]
  have a1 : f * x * z * (w1 * w2) = f * m * (w1 * y * z) := by
    rw [show f * x * z * (w1 * w2) = f * z * w1 * (x * w2) by simp [Nat.mul_comm, Nat.mul_left_comm, Nat.mul_assoc], c]
    simp [Nat.mul_comm, Nat.mul_left_comm, Nat.mul_assoc]
  have a2 : u * (w1 * y) * (w1 * w2) = n * (w1 * y * z) := by
    rw [show u * (w1 * y) * (w1 * w2) = w1 * y * (u * (w1 * w2)) by simp [Nat.mul_comm, Nat.mul_left_comm, Nat.mul_assoc], cn]
    simp [Nat.mul_comm, Nat.mul_left_comm, Nat.mul_assoc]
  rw [a1, a2, Nat.add_comm]
/-! ### a kind once more -/
def wide (W : Wt) : Wt := ⟨W.n, W.k + 1, fun p c => if c = W.k then W.mv p 0 else W.mv p c, W.wd⟩
def parted (k : Nat) (ws : Nat → Nat) (x : Nat) : Nat → Nat := fun c => if c = k then x else ws c
def joined (ws : Nat → Nat) (x : Nat) : Nat → Nat := fun c => if c = 0 then ws 0 + x else ws c
theorem wide_ok {W : Wt} (ok : W.Ok) (h : W.k ≤ 3) : (wide W).Ok := ⟨ok.n1, ok.n6, by show 1 ≤ W.k + 1; omega, by show W.k + 1 ≤ 4; omega, fun p hp c hc => by
  show (if c = W.k then W.mv p 0 else W.mv p c) < W.n
  have hc : c < W.k + 1 := hc
  split
  · exact ok.mv p hp 0 ok.k1
  · exact ok.mv p hp c (by omega), ok.wd⟩
theorem sum_joined (f : Nat → Nat) (ws : Nat → Nat) (x : Nat) {k : Nat} (k1 : 1 ≤ k) : sumTo (fun c => joined ws x c * f c) k = sumTo (fun c => ws c * f c) k + x * f 0 := by
  induction k with
  | zero => omega
  | succ k ih =>
    rw [sumTo_succ, sumTo_succ]
    rcases Nat.eq_zero_or_pos k with z | z
    · subst z
      show 0 + (ws 0 + x) * f 0 = 0 + ws 0 * f 0 + x * f 0
      rw [Nat.add_mul]
      omega
    · rw [ih z]
      have : joined ws x k = ws k := if_neg (by omega)
      rw [this]
      omega
theorem wide_alike {W : Wt} (ok : W.Ok) (ws : Nat → Nat) (x : Nat) : Alike (wide W) W (parted W.k ws x) (joined ws x) := by
  have key : ∀ f g : Nat → Nat, (∀ c < W.k, f c = g c) → f W.k = g 0 → sumTo (fun c => parted W.k ws x c * f c) (W.k + 1) = sumTo (fun c => joined ws x c * g c) W.k := fun f g h1 h2 => by
    rw [sumTo_succ, sum_joined g ws x ok.k1]
    have e1 : parted W.k ws x W.k = x := if_pos rfl
    rw [e1, h2]
    congr 1
    refine sumTo_congr fun c hc => ?_
    have : parted W.k ws x c = ws c := if_neg (by omega)
    rw [this, h1 c hc]
  refine ⟨rfl, fun p _ => rfl, fun p hp c hc => ok.mv p hp c hc, fun g h p hp gh => ?_, ?_⟩
  · show sumTo (fun c => parted W.k ws x c * g ((wide W).mv p c)) (W.k + 1) = sumTo (fun c => joined ws x c * h (W.mv p c)) W.k
    refine key _ _ (fun c hc => ?_) ?_
    · show g (if c = W.k then W.mv p 0 else W.mv p c) = _
      rw [if_neg (by omega)]
      exact gh _ (ok.mv p hp c hc)
    · show g (if W.k = W.k then W.mv p 0 else W.mv p W.k) = _
      rw [if_pos rfl]
      exact gh _ (ok.mv p hp 0 ok.k1)
  · have := key (fun _ => 1) (fun _ => 1) (fun _ _ => rfl) rfl
    simp only [Nat.mul_one] at this
    exact this
theorem wide_rows {W : Wt} : ∀ {s : Row}, Row.Ok W.k s → RowsAlike (wide W) W s s
  | [], _ => trivial
  | none :: s, h => wide_rows (s := s) fun c hc => h c (List.mem_cons_of_mem _ hc)
  | some c :: s, h => by
    have hc := h c List.mem_cons_self
    refine ⟨fun p hp => ?_, hc, wide_rows (s := s) fun c hc => h c (List.mem_cons_of_mem _ hc)⟩
    show (if c = W.k then W.mv p 0 else W.mv p c) = _
    rw [if_neg (by omega)]
/-- kind 0 named anew -/
def named (k : Nat) (s : Row) : Row := s.map fun i => if i = some 0 then some k else i
theorem named_rows {W : Wt} (k1 : 1 ≤ W.k) : ∀ {s : Row}, Row.Ok W.k s → RowsAlike (wide W) W (named W.k s) s
  | [], _ => trivial
  | none :: s, h => named_rows k1 (s := s) fun c hc => h c (List.mem_cons_of_mem _ hc)
  | some c :: s, h => by
    have hc := h c List.mem_cons_self
    have ih := named_rows k1 (s := s) fun c hc => h c (List.mem_cons_of_mem _ hc)
    by_cases e : c = 0
    · subst e
      refine ⟨fun p hp => ?_, hc, ih⟩
      show (if W.k = W.k then W.mv p 0 else W.mv p W.k) = _
      rw [if_pos rfl]
    · have e2 : (if (some c : Option Nat) = some 0 then some W.k else some c) = some c := if_neg fun z => e (Option.some.inj z)
      show RowsAlike.Paired2 (wide W) W ((if (some c : Option Nat) = some 0 then some W.k else some c) :: named W.k s) (some c :: s)
      rw [e2]
      refine ⟨fun p hp => ?_, hc, ih⟩
      show (if c = W.k then W.mv p 0 else W.mv p c) = _
      rw [if_neg (by omega)]
theorem named_ok {k : Nat} {s : Row} (h : Row.Ok k s) : Row.Ok (k + 1) (named k s) := fun c hc => by
  obtain ⟨i, hi, e⟩ := List.mem_map.mp hc
  by_cases z : i = some 0
  · rw [if_pos z] at e
    rw [← Option.some.inj e]
    omega
  · rw [if_neg z] at e
    have := h c (by rw [← e]; exact hi)
    omega
theorem wide_sure {W : Wt} (ok : W.Ok) (t p : Nat) (hp : p < W.n) : sureB (wide W) t p = sureB W t p := by
  unfold sureB
  rw [LW_alike (V := wide W) (W := W) rfl (fun _ _ => rfl) rfl ok.k1 (fun p _ c hc => if_neg (show ¬ c = W.k by omega)) (fun p _ => if_pos rfl) ok.mv t p hp]
end Od
namespace Od
theorem T_take (d : Dc) (g : Nat → Nat) (i : Nat) : T (d.take i) g ≤ T d g := by
  have := T_app (d.take i) (d.drop i) g
  rw [List.take_append_drop] at this
  omega
theorem M_beg_le {W : Wt} (ok : W.Ok) {ws : Nat → Nat} {place : Nat} (h : place < W.n) (s : Row) (v : Nat) : M (beg W place) ws s v ≤ whole ws W.k s := M_le (beg_ok ok h) s v
theorem Nn_le {W : Wt} (ok : W.Ok) {ws : Nat → Nat} {d : Dc} (g : Good W.n d) (s : Row) (v i : Nat) : Nn W ws s (d.take i) v ≤ T d (fun _ => 1) * whole ws W.k s := by
  unfold Nn
  refine Nat.le_trans (T_take d _ i) ?_
  have : T d (fun p => M (beg W p) ws s v) ≤ T d (fun _ => whole ws W.k s * 1) := by
    have go : ∀ d : Dc, (∀ e ∈ d, e.1 < W.n) → T d (fun p => M (beg W p) ws s v) ≤ T d (fun _ => whole ws W.k s * 1) := by
      intro d
      induction d with
      | nil => intro _; exact Nat.le_refl _
      | cons e r ih =>
        intro h
        rw [T_cons, T_cons]
        have h1 := ih fun x hx => h x (List.mem_cons_of_mem _ hx)
        have h2 := Nat.mul_le_mul_left e.2 (M_beg_le ok (ws := ws) (h e List.mem_cons_self) s v)
        have h3 : e.2 * (whole ws W.k s * 1) = e.2 * whole ws W.k s := by rw [Nat.mul_one]
        omega
    exact go d g.lt
  rw [T_mul] at this
  rw [Nat.mul_comm]
  exact this
theorem Nn_take {W : Wt} {ws : Nat → Nat} {d : Dc} (s : Row) (v : Nat) {i : Nat} {e : Nat × Nat} (h : d[i]? = some e) : Nn W ws s (d.take (i + 1)) v = Nn W ws s (d.take i) v + e.2 * M (beg W e.1) ws s v := by
  unfold Nn
  rw [List.take_add_one, h, T_app]
  show _ + T [e] _ = _
  rw [T_cons, T_nil, Nat.add_zero]
/-- small weights, short rows -/
theorem whole_lt42 {W : Wt} (k3 : W.k ≤ 3) {ws : Nat → Nat} (h : ∀ c < W.k, ws c ≤ 30) {s : Row} (hs : s.length ≤ 6) : whole ws W.k s ≤ 2 ^ 42 := by
  have h1 : sumTo ws W.k ≤ 2 ^ 7 := by
    have a := sumTo_le (k := W.k) h
    have b : W.k * 30 ≤ 3 * 30 := Nat.mul_le_mul_right _ k3
    have : (2 : Nat) ^ 7 = 128 := by decide
    omega
  have h2 : unk s ≤ 6 := Nat.le_trans (unk_le s) hs
  unfold whole
  refine Nat.le_trans (Nat.pow_le_pow_left h1 _) ?_
  rw [← Nat.pow_mul]
  exact Nat.pow_le_pow_right (by decide) (by omega)
end Od
namespace Od
theorem T_zero : ∀ d : Dc, T d (fun _ => 0) = 0
  | [] => rfl
  | e :: r => by rw [T_cons, T_zero r, Nat.mul_zero]
theorem M_big {W : Wt} (ok : W.Ok) {ws : Nat → Nat} (hw : ∀ c < W.k, 0 < ws c) {s : Row} (hs : Row.Ok W.k s) {v : Nat} (hv : 4 ≤ v) : M W ws s v = 0 := by
  have h : T (numbers W ws s) (ind W v) = T (numbers W ws s) (fun _ => 0) := T_le_of fun e he => by
    have := ok.wd _ ((numbers_good ok hw hs).lt e he)
    unfold ind
    rw [if_neg (by omega)]
  rw [numbers_T, T_zero] at h
  exact h
theorem Nn_big {W : Wt} (ok : W.Ok) {ws : Nat → Nat} (hw : ∀ c < W.k, 0 < ws c) {s : Row} (hs : Row.Ok W.k s) {d : Dc} (g : ∀ e ∈ d, e.1 < W.n) {v : Nat} (hv : 4 ≤ v) : Nn W ws s d v = 0 := by
  unfold Nn
  rw [T_le_of (h := fun _ => 0) fun e he => M_big (beg_ok ok (g e he)) hw hs hv, T_zero]
end Od
/-! ==== FxLam ==== -/
/-! A lambda of one parameter, handed to a def of two parameters as its second argument, called there. -/
namespace Fx
open PySem PySem.Spec PyProof.Rows L2 LamX
structure OneP (sc scope : Scope) (x : Str) : Prop where
  knd : scope.kind = .function
  noco : scope.isCoroutine = false
  nogen : scope.isGenerator = false
  par : scope.names.lookup x = some .local
  mine : ∀ y ∈ scope.names, y.2 ≠ .cell ∧ (y.2 = .local → y.1 = x)
  caught : ∀ y ∈ scope.names, y.2 = .free → sc.names.lookup y.1 = some .cell ∨ sc.names.lookup y.1 = some .free
def onePB (sc scope : Scope) (x : Str) : Bool :=
  decide (scope.kind = .function) && (!scope.isCoroutine && (!scope.isGenerator && (decide (scope.names.lookup x = some .local) &&
    scope.names.all fun y => !decide (y.2 = .cell) && ((!decide (y.2 = .local) || decide (y.1 = x)) && (!decide (y.2 = .free) || (decide (sc.names.lookup y.1 = some .cell) || decide (sc.names.lookup y.1 = some .free)))))))
theorem oneP_by {sc scope : Scope} {x : Str} (h : onePB sc scope x = true) : OneP sc scope x := by
  unfold onePB at h
  simp only [Bool.and_eq_true, Bool.or_eq_true, Bool.not_eq_true', decide_eq_true_eq, decide_eq_false_iff_not, List.all_eq_true] at h
  obtain ⟨h1, h2, h3, h4, h5⟩ := h
  refine ⟨h1, h2, h3, h4, fun y hy => ⟨(h5 y hy).1, fun e => ?_⟩, fun y hy e => ?_⟩
  · exact (h5 y hy).2.1.elim (fun z => absurd e z) id
  · exact (h5 y hy).2.2.elim (fun z => absurd e z) id
theorem OneP.has {X : Cx} {scope : Scope} {x : Str} (L : OneP X.env.scope scope x) (ok : X.Ok) : ∀ y ∈ scope.names, y.2 = .free → ∃ c, X.env.cells.lookup y.1 = some c :=
  fun y hy e => (L.caught y hy e).elim (fun z => ok.has _ (.inl z)) fun z => ok.has _ (.inr z)
/-- the lambda's body running: the maker's names, then its own one -/
def oneCx (X : Cx) (A : Around) (outer : List Env) (s : Shared) (H : Hp) (scope : Scope) (x : Str) (f c' : Addr) : Cx where
  prog := X.prog
  w := X.w
  K := X.K
  mg := X.mg
  base := X.base
  A := A.deeper (lamEnv X scope s.heap.objs.size f c')
  N := X.N ++ [x]
  s_0 := s
  H_0 := H
  env := lamEnv X scope s.heap.objs.size f c'
  outer := outer
  stack := lamEnv X scope s.heap.objs.size f c' :: outer
  ex := []
  fn := fun _ => false
  calm := true
  pn := []
  xe := fun e s' => wpAny (model X.prog X.w) (A.deeper (lamEnv X scope s.heap.objs.size f c')) (leaving (lamEnv X scope s.heap.objs.size f c') e)
    (fun _ s'' => CX0 outer H s E0 e s'') (fun e' s'' => CX0 outer H s E0 e' s'') s'
section
variable {X : Cx} {pins : List (Addr × Obj)} {σ : L2.St} {H HZ : Hp} {s s1 : Shared}
theorem one_start {A : Around} {outer : List Env} {scope : Scope} {x : Str} {f c' : Addr} {h₁ : Heap} {tk : Nat} {u : Value} {v : V} (I : Inv X pins σ H s) (L : OneP X.env.scope scope x) (nx : x ∉ X.N)
    (e0 : Env0 X.prog X.w X.K X.mg X.base A outer s1 HZ) (hd : A.handled = none) (un : Un (frs X.stack) [] H HZ s.heap s1.heap) (rv : RelV v u)
    (hns : h₁.Ns s1.heap.objs.size fun y => ([(x, u)] : List (Str × Value)).reverse.lookup y) (kp : ∀ b o, s1.heap.get? b = some o → h₁.get? b = some o) :
    Inv (oneCx X A outer s1 HZ scope x f c') [] (σ ++ [some v]) HZ { s1 with heap := h₁, toks := tk } := by
  have hfree := L.has I.ok
  have down : ∀ {y c}, (cloFrom X.env.cells scope.names []).lookup y = some c → X.env.cells.lookup y = some c := by
    intro y c e
    rcases cloFrom_mem (PySem.mem_of_lookup e) with hm | ⟨h1, h2⟩
    · cases hm
    · obtain ⟨c1, hc⟩ := hfree _ h1 rfl
      have hc2 : X.env.cells.lookup y = some c1 := hc
      have e2 : c = c1 := by
        rw [h2, hc2]
        rfl
      rw [e2]
      exact hc2
  have up : ∀ {y}, scope.names.lookup y = some .free → ∃ c, (cloFrom X.env.cells scope.names []).lookup y = some c := by
    intro y hl
    exact mem_lookup (cloFrom_has (cells := X.env.cells) (acc := []) (show (y, NameKind.free) ∈ scope.names from PySem.mem_of_lookup hl))
  have cellK : ∀ {c : Addr} {v : Option Value}, H c = none → s.heap.IsCell c v → h₁.IsCell c v := by
    intro c v n hcell
    obtain ⟨o, ho, hd⟩ := hcell
    obtain ⟨sl, q⟩ := un.any ho n (by simp)
    exact ⟨_, kp _ _ q, hd⟩
  have noA : ∀ b : Addr, b ∉ (oneCx X A outer s1 HZ scope x f c').ex := fun b z => absurd (show b ∈ ([] : List Addr) from z) (by simp)
  have lenN : σ.length = X.N.length := I.len
  refine ⟨⟨e0.mod, L.knd, rfl, rfl, Nat.le_refl _, fun y z c e1 e2 => I.ok.inj y z c (down e1) (down e2), fun y hy => ?has, fun y c z _ => (nomatch (show false = true from z)), fun _ => hd, Around.frames_deeper e0.frames, .inr ⟨rfl, rfl⟩,
      fun b z => absurd z (noA b), e0.bs, e0.bsz, fun b _ _ => noA b, fun b z => absurd z (noA b), e0.funs, e0.frf⟩,
    rfl, e0.bare, Un.kept kp, ⟨_, hns, fun i y w e1 e2 e3 => ?loc⟩, fun y c e => ?cell, e0.hok.fresh (Nat.le_refl _), fun y c e => ?freeC, fun q hq => absurd (show q ∈ ([] : List (Addr × Obj)) ++ [] from hq) (by simp), e0.hok.kept kp, ?len⟩
  case has =>
    have hy : scope.names.lookup y = some .cell ∨ scope.names.lookup y = some .free := hy
    rcases hy with hy | hy
    · exact absurd rfl (L.mine _ (PySem.mem_of_lookup hy)).1
    · exact up hy
  case loc =>
    have e1 : (X.N ++ [x])[i]? = some y := e1
    have e3 : Vis scope y := e3
    by_cases hi : i < X.N.length
    · rw [List.getElem?_append_left hi] at e1
      rw [List.getElem?_append_left (by omega)] at e2
      have ny : y ≠ x := fun z => nx (z ▸ List.mem_of_getElem? e1)
      rcases e3 with k | k | k
      · exact absurd ((L.mine _ (PySem.mem_of_lookup k)).2 rfl) ny
      · exact absurd rfl (L.mine _ (PySem.mem_of_lookup k)).1
      · obtain ⟨m, hn, hl⟩ := I.loc
        have hv : Vis X.env.scope y := (L.caught _ (PySem.mem_of_lookup k) rfl).elim (fun k => .inr (.inl k)) fun k => .inr (.inr k)
        obtain ⟨w', r, q⟩ := hl i y w e1 e2 hv
        obtain ⟨c2, h2⟩ := up k
        have c1 := down h2
        refine ⟨w', r, .inr ⟨.inr k, c2, h2, ?_⟩⟩
        rcases q with ⟨k1, _⟩ | ⟨_, c3, e', z⟩
        · have k1 : X.env.scope.names.lookup y = some .local := k1
          rcases L.caught _ (PySem.mem_of_lookup k) rfl with k2 | k2 <;> rw [show X.env.scope.names.lookup y = _ from k2] at k1 <;> cases k1
        · rw [c1] at e'
          cases e'
          exact cellK (I.freeC y _ c1) z
    · have hle : X.N.length ≤ i := Nat.le_of_not_lt hi
      rw [List.getElem?_append_right hle] at e1
      rw [List.getElem?_append_right (by omega), lenN] at e2
      have i0 : i - X.N.length = 0 := by
        rcases Nat.eq_zero_or_pos (i - X.N.length) with z | z
        · exact z
        · rw [List.getElem?_eq_none (by simp; omega)] at e1
          cases e1
      rw [i0] at e1 e2
      have ey : x = y := Option.some.inj e1
      have ew : v = w := Option.some.inj (Option.some.inj e2)
      rw [← ew, ← ey]
      exact ⟨u, rv, .inl ⟨L.par, by simp [List.lookup]⟩⟩
  case cell =>
    obtain ⟨w', z⟩ := I.cell y c (down e)
    exact ⟨w', cellK (I.freeC y c (down e)) z⟩
  case freeC =>
    obtain ⟨v', o, ho, hd⟩ := I.cell y c (down e)
    exact un.free c o ho (I.freeC y c (down e)) (by simp)
  case len =>
    show (σ ++ [some v]).length = (X.N ++ [x]).length
    rw [List.length_append, List.length_append, lenN]
    rfl
/-- a(e) in the def that got the lambda -/
theorem one_act {Ng : List Str} {qg : Str} {sg : Scope} {g f c' : Addr} {cdg pm ctv : Value} {params : Arguments} {body : Expr} {scope : Scope} {k i : Nat} {x a : Str} {tb : TE} {te : TE} {e : Expr} {p1 p2 : Pos}
    (I : Inv X pins σ H s) (L : OneP X.env.scope scope x) (nx : x ∉ X.N) (hf : s.heap.get? f = some (PySem.W.kla_obj "<lambda>" (X.env.qual ++ "<lambda>") params body scope (cloFrom X.env.cells scope.names []) pm c' ctv)) (hfn : H f = none) (hfr : f ∉ frs X.stack)
    (hbind : ∀ u : Value, bindArgs (PySem.W.kla_fn "<lambda>" (X.env.qual ++ "<lambda>") params body scope (cloFrom X.env.cells scope.names []) pm (.ref c') ctv) ⟨[u], []⟩ = pure [(x, u)])
    (hr : Room (k + 1) (X.A.deeper (envOfC qg sg s.heap.objs.size g cdg)))
    (hbody : ∀ (A : Around) (outer : List Env) (s : Shared) (H : Hp), Room k (A.deeper (lamEnv X scope s.heap.objs.size f c')) → PE (oneCx X A outer s H scope x f c') body tb)
    (he : PE (cxOf CX0 X.prog X.w X.K X.mg X.base Ng qg sg g cdg X.A X.stack s H E0).nox e te)
    (hN : Ng[i]? = some a) (hv : Vis sg a) (hd : (a == ("__debug__" : Str)) = false) (hcd : (a == ("__classdict__" : Str)) = false)
    (hs1 : starEach [e] (cxOf CX0 X.prog X.w X.K X.mg X.base Ng qg sg g cdg X.A X.stack s H E0).nox.env = (false, eval e (cxOf CX0 X.prog X.w X.K X.mg X.base Ng qg sg g cdg X.A X.stack s H E0).nox.env) :: starEach [] (cxOf CX0 X.prog X.w X.K X.mg X.base Ng qg sg g cdg X.A X.stack s H E0).nox.env) :
    PE (cxOf CX0 X.prog X.w X.K X.mg X.base Ng qg sg g cdg X.A X.stack s H E0).nox (.Call (.Name a p1) [e] [] p2)
      (fun σZ HZ Q => σZ[i]? = some (some (.ref f)) ∧ te σZ HZ fun y H1 => H1 c' = some (CodeO c' (X.env.qual ++ "<lambda>")) ∧ tb (σ ++ [some y]) H1 Q) := by
  refine ⟨fun pinsZ sZ σZ HZ Q IZ h => ?_⟩
  obtain ⟨hs, ht⟩ := h
  refine wpAny_Call_Name_kw (thn ((pe_var (pos := p1) (i := i) hN hv hd hcd).run pinsZ sZ σZ HZ (fun v H1 => v = .ref f ∧ H1 = HZ) IZ ⟨.ref f, hs, rfl, rfl⟩) fun u s1 ⟨v, H1, I1, r1, ev, eH⟩ => ?_)
  subst ev
  rw [eH] at I1
  obtain rfl : u = Value.ref f := r1
  have still : ∀ {pz : List (Addr × Obj)} {sx : Shared} {σx : L2.St} {Hx : Hp}, Inv (cxOf CX0 X.prog X.w X.K X.mg X.base Ng qg sg g cdg X.A X.stack s H E0).nox pz σx Hx sx →
      sx.heap.get? f = some (PySem.W.kla_obj "<lambda>" (X.env.qual ++ "<lambda>") params body scope (cloFrom X.env.cells scope.names []) pm c' ctv) := fun J =>
    J.base.keep f _ hf hfn hfr (fun z => nomatch (show f ∈ ([] : List Addr) from z))
  refine PySem.W.callWith_F (first := []) ⟨_, _, _, _, still I1⟩ (thn ((pa_cons he pa_nil hs1).run p2 pinsZ s1 σZ HZ
    (fun vs H1 => match vs with
      | [y] => H1 c' = some (CodeO c' (X.env.qual ++ "<lambda>")) ∧ tb (σ ++ [some y]) H1 Q
      | _ => False) I1 ht) fun us s2 ⟨vs, H2, I2, r2, q2⟩ => ⟨⟨_, _, _, _, still I2⟩, ?_⟩) hs1 rfl
  match vs, r2, q2 with
  | [], _, q2 => exact q2.elim
  | _ :: _ :: _, _, q2 => exact q2.elim
  | [y], r2, q2 =>
    obtain ⟨hc, hb⟩ := q2
    obtain ⟨u, rfl, ru⟩ := Vals.one r2
    obtain ⟨⟨oc, ws, t, hoc, hdc, hvc⟩, _, _⟩ := I2.hok c' _ hc
    have un : Un (frs X.stack) [] H H2 s.heap s2.heap := I2.base
    have rc : codeAny (model X.prog X.w) (X.A.deeper (envOfC qg sg s.heap.objs.size g cdg)) (.call (.ref f) ⟨[u], []⟩) (CR CX0 (envOfC qg sg s.heap.objs.size g cdg :: X.stack) X.prog X.w H2 s2 Q E0) s2 := by
      refine PySem.W.kla_callFunE hr.depth (still I2) rfl L.noco L.nogen rfl ⟨c', oc, ws, t, rfl, hoc, hdc, hvc⟩ ?_
      rw [hbind]
      refine wpAny_pure (wpAny_newFunctionEnv (fun y hy => (L.mine y hy).1) (fun q hq => ?_) (fun h₁ hns hsb => ⟨I2.nolimit.fresh _ hsb, ?_⟩) L.knd)
      · have eq : q = (x, u) := by simpa using hq
        rw [eq]
        exact L.par
      · show codeAny _ _ (.expr body (lamEnv X scope s2.heap.objs.size f c')) _ _
        have kp : ∀ b o, s2.heap.get? b = some o → h₁.get? b = some o := fun b o e => hsb.extBut b o (Nat.ne_of_lt (Heap.lt_size e)) (Heap.get?_push_of_some _ e)
        have J : Inv (oneCx X (X.A.deeper (envOfC qg sg s.heap.objs.size g cdg)) (envOfC qg sg s.heap.objs.size g cdg :: X.stack) s2 H2 scope x f c') [] (σ ++ [some y]) H2 { s2 with heap := h₁, toks := s2.toks + ([(x, u)] : List (Str × Value)).length } :=
          one_start I L nx I2.env0 hr.hd un ru hns kp
        refine PySem.W.kla_codeExpr (wpAny_mono ((hbody _ _ s2 H2 (hr.deeper _)).run [] _ _ H2 Q J hb) (fun v s' hq => ?_) fun e s' hq => hq)
        obtain ⟨w', H', J', rv, q⟩ := hq
        exact ⟨w', H', J'.os, J'.bare, J'.base, J'.hok, rv, q⟩
    show wpAny _ _ (call (.ref f) [u]) _ _ _
    refine wpAny_call (codeAny_mono rc fun r s' hq => ?_)
    cases r with
    | error e => exact (show False from hq).elim
    | ok fl =>
      cases fl with
      | ret u => exact I2.after hq
      | next => exact False.elim hq
      | brk => exact False.elim hq
      | cont => exact False.elim hq
/-- the def that gets the lambda as its second argument: what it makes of the lambda's reading -/
def GivesTwo (X : Cx) (Ng : List Str) (g0 : Str) (sg : Scope) (g : Addr) (cdg : Value) (bg : List Stmt) (a : Str) (i : Nat) (q : Str) (TT : (V → Hp → VK → Prop) → V → Hp → VK → Prop) : Prop :=
  ∀ (f c' : Addr) (s : Shared) (H : Hp) (v : V) (Q : VK) (tl : V → Hp → VK → Prop),
    (∀ (e : Expr) (te : TE) (p1 p2 : Pos), PE (cxOf CX0 X.prog X.w X.K X.mg X.base Ng g0 sg g cdg X.A X.stack s H E0).nox e te →
      starEach [e] (cxOf CX0 X.prog X.w X.K X.mg X.base Ng g0 sg g cdg X.A X.stack s H E0).nox.env = (false, eval e (cxOf CX0 X.prog X.w X.K X.mg X.base Ng g0 sg g cdg X.A X.stack s H E0).nox.env) :: starEach [] (cxOf CX0 X.prog X.w X.K X.mg X.base Ng g0 sg g cdg X.A X.stack s H E0).nox.env →
      PE (cxOf CX0 X.prog X.w X.K X.mg X.base Ng g0 sg g cdg X.A X.stack s H E0).nox (.Call (.Name a p1) [e] [] p2)
        (fun σZ HZ Q => σZ[i]? = some (some (.ref f)) ∧ te σZ HZ fun y H1 => H1 c' = some (CodeO c' q) ∧ tl y H1 Q)) →
    H c' = some (CodeO c' q) → TT tl v H Q →
    ∃ t, PSs (cxOf CX0 X.prog X.w X.K X.mg X.base Ng g0 sg g cdg X.A X.stack s H E0).nox bg t ∧ t { nx := fun _ H' => Q .non H', rt := Q } (L2.start Ng [v, .ref f]) H
def tTwo (T : List (Addr × Str)) (TT : (V → Hp → VK → Prop) → V → Hp → VK → Prop) (t1 t : TE) : TE := fun σ H Q => t1 σ H fun v H0 => Tabs T H0 ∧ ∀ H1, ExtN H0 H1 → Tabs T H1 → TT (fun y H' Q' => t (σ ++ [some y]) H' Q') v H1 Q
end
section
variable {X : Cx}
/-- g(e, lambda x: body) -/
theorem pe_two {T : List (Addr × Str)} {TT : (V → Hp → VK → Prop) → V → Hp → VK → Prop} {g0 b a x : Str} {g c P : Addr} {k i : Nat} {pg : Arguments} {bg : List Stmt} {sg : Scope} {dV kV doc pm cdv ct oc : Value} {an od : Option Addr} {osl : Array (Option Value)} {Ng : List Str}
    {params : Arguments} {body e1 : Expr} {scope : Scope} {t1 t : TE} {p lpos pos : Pos} (he1 : PE X e1 t1) (hg : Gl X g0) (hm : X.mg g0 = some (.ref g)) (hk : PySem.W.keepIn X.K (.ref g) = true)
    (lk : X.K.lookup g = some ⟨oc, od, .func (PySem.W.fnOf g0 g0 pg bg sg dV kV doc pm an cdv ct), osl⟩) (hcg : PySem.W.codeIn X.K cdv g0 = true) (hb : L2.Binds X.K (PySem.W.fnOf g0 g0 pg bg sg dV kV doc pm an cdv ct) [b, a] []) (Sg : FnScope Ng [b, a] sg) (hNg : Ng[i]? = some a) (hva : Vis sg a)
    (hG : GivesTwo X Ng g0 sg g cdv bg a i (X.env.qual ++ "<lambda>") TT)
    (TB : TabB X.base X.mg c P) (hcode : X.env.code = .ref c) (hmT : (P, X.env.qual ++ "<lambda>") ∈ T) (hu : ∀ p ∈ T, p.1 = P → p.2 = X.env.qual ++ "<lambda>") (hr : Room (k + 2) X.A) (L : OneP X.env.scope scope x) (nx : x ∉ X.N) (hdef : defaultsOf params X.env = ([], []))
    (hbind : ∀ (q : Str) (cl : List (Str × Addr)) (pm cv ctv u : Value), bindArgs (PySem.W.kla_fn "<lambda>" q params body scope cl pm cv ctv) ⟨[u], []⟩ = pure [(x, u)])
    (hbody : ∀ (A : Around) (outer : List Env) (s : Shared) (H : Hp) (f c' : Addr), Room k (A.deeper (lamEnv X scope s.heap.objs.size f c')) → PE (oneCx X A outer s H scope x f c') body t)
    (hdb : (g0 == ("__debug__" : Str)) = false) (hd : (a == ("__debug__" : Str)) = false) (hcd : (a == ("__classdict__" : Str)) = false)
    (hs : starEach [e1, .Lambda params body scope lpos] X.env = [(false, eval e1 X.env), (false, eval (.Lambda params body scope lpos) X.env)]) :
    PE X (.Call (.Name g0 p) [e1, .Lambda params body scope lpos] [] pos) (tTwo T TT t1 t) := by
  refine ⟨fun pins s σ H Q I h => ?_⟩
  refine wpAny_Call_Name_kw (ld_glob I hg hm ?_ hdb)
  refine PySem.W.callWith_K (h₀ := X.base) I.ok.mod.kin hk ?_ (by rw [hs]; rfl) rfl
  rw [hs]
  show wpAny _ _ (spliced [(false, eval e1 X.env), (false, eval (.Lambda params body scope lpos) X.env)]) _ _ s
  refine Calls.spliced_cons (thn (he1.run pins s σ H _ I h) fun u0 s0 ⟨v0, H0, I0, r0, hT, h0⟩ => ?_)
  refine Calls.spliced_cons (lam_make2 I0 TB hcode hmT hu hT hdef (L.has I0.ok) fun f c' pm' ctv H1 s' I1 eN T1 hf hfn hfr hco => ?_)
  refine Calls.spliced_nil ⟨I1.kIn, ?_⟩
  have rc : codeAny (model X.prog X.w) X.A (.call (.ref g) ⟨[u0, .ref f], []⟩) (CR CX0 X.stack X.prog X.w H1 s' Q E0) s' := by
    refine run_ofS (N := Ng) (ps := [b, a]) (us := [u0, .ref f]) (vs := [v0, .ref f]) lk hcg Sg hr I1.env0 (hb s' [u0, .ref f] I1.kIn rfl) (.cons r0 (.cons rfl .nil)) rfl fun hr' => ?_
    obtain ⟨t', ht', hq'⟩ := hG f c' s' H1 v0 Q (fun y H' Q' => t (σ ++ [some y]) H' Q') (fun e te p1 p2 he hs1 => one_act (i := i) I1 L nx hf hfn hfr (hbind _ _ _ _ _) hr' (fun A outer s H hr2 => hbody A outer s H f c' hr2) he hNg hva hd hcd hs1) hco (h0 H1 eN T1)
    exact ⟨t', ht'.nox, hq'⟩
  show wpAny _ _ (call (.ref g) [u0, .ref f]) _ _ _
  refine wpAny_call (codeAny_mono rc fun r s2 hq => ?_)
  cases r with
  | error e => exact (show False from hq).elim
  | ok fl =>
    cases fl with
    | ret u => exact I1.after hq
    | next => exact False.elim hq
    | brk => exact False.elim hq
    | cont => exact False.elim hq
end
end Fx
/-! ==== FxWalk ==== -/
/-! Loops over a list or a tuple; enumerate of a list or a tuple. -/
namespace Fx
open PySem PySem.Spec PyProof.Rows L2
open Sem (wp)
section
theorem meets_enumOne {v : Value} {o : Obj} {H : Heap → Prop} (B : Begins v o H) :
    Meets (Builtin.«enumerate.__new__» ⟨[.type "enumerate", v], []⟩) (fun _ R s => H s.heap ∧
      R (.ok (.ret (.ref (s.heap.push o).objs.size))) { s with heap := (s.heap.push o).push { cls := .type "enumerate", data := .fields #[.none, .bool false, .ref s.heap.objs.size, rawInt 0, .none, .none] } }) :=
  .of_wp fun prog w A R s h => by
    obtain ⟨hp, g, d, tk, os⟩ := s
    obtain ⟨h1, h2⟩ := h
    have sube := sub_enumerate
    have begin_ : ∀ {A' : Around} {E : Value → Shared → Prop} {Q : Value → Shared → Prop}, Q (.ref hp.objs.size) ⟨hp.push o, g, d, tk, os⟩ → wpAny (model prog w) A' (pyIter v) Q E ⟨hp, g, d, tk, os⟩ :=
      fun q => B.iter prog w _ _ ⟨hp, g, d, tk, os⟩ _ h1 q
    wp_walk using begin_
    refine wpAny_stack_any fun st => wpAny_pure ?_
    split
    · rename_i c _ _ _ _ _
      cases (c == Value.type "enumerate") <;> (wp_walk using begin_; exact ⟨_, rfl, h2⟩)
    · wp_walk using begin_
      exact ⟨_, rfl, h2⟩
variable {prog : Program} {w : World} {A : Around} {E : Value → Shared → Prop} {s : Shared}
theorem enum_one {v : Value} {o : Obj} {H : Heap → Prop} {Q : Value → Shared → Prop} (B : Begins v o H) (h1 : H s.heap)
    (h : ∀ h', IsEnum h' (s.heap.objs.size + 1) s.heap.objs.size 0 .none → h'.get? s.heap.objs.size = some o → (∀ b o, s.heap.get? b = some o → h'.get? b = some o) → Q (.ref (s.heap.objs.size + 1)) { s with heap := h' }) :
    wpAny (model prog w) A (call (.type "enumerate") [v]) Q E s := by
  refine callType_new F.called_enumerate (by decide) (F.typeCall_enumerate_1 _) (F.newCall_enumerate_1 _) (fun obj => F.args_object_init_2 obj _) F.entry_enumerate_new (meets_enumOne B) ⟨h1, ?_⟩
  have sz : (s.heap.push o).objs.size = s.heap.objs.size + 1 := Heap.size_push ..
  show _ ∧ _
  rw [sz]
  have he : IsEnum ((s.heap.push o).push { cls := .type "enumerate", data := .fields #[.none, .bool false, .ref s.heap.objs.size, rawInt 0, .none, .none] }) (s.heap.objs.size + 1) s.heap.objs.size 0 .none := by
    have q := Heap.get?_push_size (s.heap.push o) (o := { cls := .type "enumerate", data := .fields #[.none, .bool false, .ref s.heap.objs.size, rawInt 0, .none, .none] }) rfl
    rw [sz] at q
    exact q
  exact ⟨⟨_, he, rfl⟩, h _ he (Heap.get?_push_of_some _ (Heap.get?_push_size _ B.free)) fun b o x => Heap.get?_push_of_some _ (Heap.get?_push_of_some _ x)⟩
end
/-- enumerate of a tuple -/
def ItU (K : PySem.W.Frag) (a : Addr) : It :=
  ⟨fun i H => ∃ (xs : List V) (x : V), SqT K H a xs ∧ xs[i]? = some x, fun i H v H' => ∃ T x, v = .ref T ∧ H T = none ∧ H' = upd H T (.tup [.int (i : Nat), x]) ∧ ∀ xs, SqT K H a xs → xs[i]? = some x, fun i H => ∃ xs : List V, SqT K H a xs ∧ xs.length ≤ i⟩
theorem apart_it {h : Heap} {a it : Addr} {its : Array Value} {i : Nat} (p : IsTup h a its) (q : h.IsTupleIter it a i) : a ≠ it := fun z => by
  obtain ⟨o, ho, hc, hd⟩ := q
  obtain ⟨o2, ho2, hc2, n, hd2⟩ := p
  rw [z, ho] at ho2
  cases ho2
  rw [hd] at hd2
  cases hd2
theorem apart_en {h : Heap} {a e it : Addr} {its : Array Value} {i : Int} {old : Value} (p : IsTup h a its) (q : IsEnum h e it i old) : e ≠ a := fun z => by
  obtain ⟨o2, ho2, hc2, n, hd2⟩ := p
  have q' := q
  unfold IsEnum at q'
  rw [z, ho2] at q'
  cases q'
  cases hd2
theorem turn_enumU {P : Program} {w : World} {K : PySem.W.Frag} {elts : List Expr} {kk : Nat} {tpos : Pos} (a e it : Addr) :
    Turn P w K (.Tuple elts kk tpos) (ItU K a) [e, it] e (fun i h => (∃ old, IsEnum h e it ((i : Nat) : Int) old) ∧ h.IsTupleIter it a i ∧ e ≠ it) where
  mem := by simp
  obj := fun i h st b hb => by
    obtain ⟨⟨old, he⟩, ⟨o, ho, hc, hd⟩, _⟩ := st
    have e' : b = e ∨ b = it := by simpa using hb
    rcases e' with z | z
    · rw [z]; exact ⟨_, he, fun v q => nomatch q⟩
    · rw [z]; exact ⟨o, ho, fun v q => by rw [hd] at q; cases q⟩
  keep := fun i h h' st k => by
    obtain ⟨⟨old, he⟩, hi, hne⟩ := st
    exact ⟨⟨old, k e (by simp) _ he⟩, hi.at fun o q => k it (by simp) o q, hne⟩
  item := by
    intro X hP hw hK hc i pins s σ H E I hf st hg
    subst hP hw hK
    obtain ⟨⟨old, he⟩, hit, hne⟩ := st
    obtain ⟨xs, x, hq, hx⟩ := hg
    obtain ⟨its, rv, p, hz⟩ := I.tuple hq
    obtain ⟨u, hu, ru⟩ := rv.get hx
    have hel : e < s.heap.objs.size := Heap.lt_size he
    have hil : it < s.heap.objs.size := by obtain ⟨_, q, _⟩ := hit; exact Heap.lt_size q
    have ne1 := apart_it p hit
    have ne2 := apart_en p he
    have hlt : i < its.toArray.size := by
      have q := (List.getElem?_eq_some_iff.mp hu).1
      simpa using q
    have D := Draws.tuple (prog := X.prog) (w := X.w) (A := X.A.in1) (I.ok.hd hc) it a ne1 its.toArray
    refine wpAny_pyNext_enum_itemD D he ⟨hit, p⟩ hlt hne (by simp [hne, ne2]) fun x' h' tk hx' ho hst hT hsz hk => ?_
    have ex : x' = u := by
      have q : its.toArray[i]? = some u := by simpa using hu
      rw [q] at hx'
      exact (Option.some.inj hx').symm
    rw [ex] at ho hT
    refine ⟨_, rfl, wpAny_letOwnedTupleGo_enum (s := { s with heap := h', toks := tk + 1 }) ho fun h'' he' sb => ?_⟩
    have hT2 : h''.get? s.heap.objs.size = some { cls := .type "tuple", data := .seq #[.int i tk, u] } := (sb.2 _ (Nat.ne_of_gt hel)).trans hT
    have new : ObjOk X.prog X.w (upd H s.heap.objs.size (.tup [.int (i : Nat), x])) h'' s.heap.objs.size (.tup [.int (i : Nat), x]) :=
      ⟨by show 2 ≤ sizeLine; decide, [.int i tk, u], .cons ⟨_, rfl⟩ (.cons ru .nil), ⟨_, hT2, rfl, _, rfl⟩⟩
    have I1 : Inv X pins σ (upd H s.heap.objs.size (.tup [.int (i : Nat), x])) { s with heap := h'', toks := tk + 1 } :=
      I.turnedNew (ch := [e, it]) (fun b ob hb q => (sb.2 b (fun z => hb (by simp [z]))).trans (hk b ob (fun z => hb (by simp [z])) (fun z => hb (by simp [z])) q)) hf (Nat.le_refl _) new
    refine ⟨.ref s.heap.objs.size, _, I1, rfl, ⟨_, x, rfl, I.hok.fresh (Nat.le_refl _), rfl, fun ys hy => by rw [I.tuple_inj hy hq]; exact hx⟩, ⟨⟨u, ?_⟩, hst.1.at fun o q => (sb.2 it (Ne.symm hne)).trans q, hne⟩, fun b hb => ?_⟩
    · have e1 : ((i + 1 : Nat) : Int) = (i : Int) + 1 := by omega
      rw [e1]
      exact he'
    · have hb' : b < s.heap.objs.size := by
        have e' : b = e ∨ b = it := by simpa using hb
        rcases e' with z | z <;> rw [z] <;> assumption
      rw [upd_ne (Nat.ne_of_lt hb')]
      exact (hf b hb).1
  done := by
    intro X hP hw hK hc i pins s σ H E I hf st hg
    subst hP hw hK
    obtain ⟨⟨old, he⟩, hit, hne⟩ := st
    obtain ⟨xs, hq, hx⟩ := hg
    obtain ⟨its, rv, p, hz⟩ := I.tuple hq
    obtain ⟨f0, f1, f2, f3, f4, f5⟩ := hf it (by simp)
    have hl := rv.length
    have hT : s.TypeIs (.ref e) "enumerate" := ⟨_, he, rfl⟩
    unfold pyNext
    refine wpAny_bind (wpAny_attempt (wpAny_callSpecial?_slot (name := Str.ofString "__next__") hT F.slot_enumerate_next
      (wpAny_call_entry F.slot_enumerate_next hT F.entry_enumerate_next ?_ (F.args_enumerate_next_1 _))))
    show wpAny _ _ (field (.ref e) 2 >>= _) _ _ _
    refine wpAny_bind (wpAny_field he rfl (x := .ref it) rfl ?_)
    refine wpAny_bind (wpAny_nextOf_tuple_end (I.ok.hd hc) hit (show s.heap.IsTuple a its.toArray from p) (by simp; omega) fun h' x he' hx' => ?_)
    obtain ⟨o, ho, hcl⟩ := hx'
    refine wpAny_bind (wpAny_isInstance (T := "StopIteration") (b := true) ⟨o, ho, hcl⟩ isSubtype_stop ?_)
    exact wpAny_pure ⟨rfl, I.turned (t' := s.toks) (fun b o hb q => he' b o hb q) f0 f1 f3 f4 f5⟩
  self := fun A i s Q E st h => by
    obtain ⟨⟨_, he⟩, _⟩ := st
    exact wpAny_pyIter_enum he h
/-- list or tuple, walked -/
def iSeq (K : PySem.W.Frag) (tl : TE) : TI := fun σ H R => tl σ H fun x H1 => ∃ a xs, x = .ref a ∧ ((SqL K H1 a xs ∧ R (Itl K a) H1) ∨ (SqT K H1 a xs ∧ R (Itt K a) H1))
/-- list or tuple, by enumerate -/
def iEnumS (K : PySem.W.Frag) (ta : TA) : TI := fun σ H R => ta σ H fun vs H1 => ∃ a xs, vs = [.ref a] ∧ ((SqL K H1 a xs ∧ R (Ite K a) H1) ∨ (SqT K H1 a xs ∧ R (ItU K a) H1))
section
variable {X : Cx} {tg : Expr}
theorem pi_seq {l : Expr} {tl : TE} (hl : PE X l tl) : PI X tg l (iSeq X.K tl) := by
  refine ⟨fun pins s σ H R I h => ?_⟩
  refine thn (hl.run pins s σ H _ I h) fun v s1 ⟨x, H1, I1, r1, a, xs, e, q⟩ => ?_
  subst e
  cases r1
  rcases q with ⟨hq, q⟩ | ⟨hq, q⟩
  · obtain ⟨its, rv, p, hz⟩ := I1.list hq
    refine wpAny_pyIter_list p.isList ?_
    refine ⟨s1.heap.objs.size, [s1.heap.objs.size], _, _, H1, rfl, I1.kept (t' := s1.toks) fun b o e => Heap.get?_push_of_some _ e, turn_list a _, ⟨_, Heap.get?_push_size _ rfl, rfl, rfl⟩, fun b hb => ?_, q⟩
    rw [show b = s1.heap.objs.size by simpa using hb]
    exact I1.fpOk (Nat.le_refl _) (I1.hok.fresh (Nat.le_refl _))
  · obtain ⟨its, rv, p, hz⟩ := I1.tuple hq
    refine wpAny_pyIter_tuple (show s1.heap.IsTuple a its.toArray from p) ?_
    refine ⟨s1.heap.objs.size, [s1.heap.objs.size], _, _, H1, rfl, I1.kept (t' := s1.toks) fun b o e => Heap.get?_push_of_some _ e, turn_tuple a _, ⟨_, Heap.get?_push_size _ rfl, rfl, rfl⟩, fun b hb => ?_, q⟩
    rw [show b = s1.heap.objs.size by simpa using hb]
    exact I1.fpOk (Nat.le_refl _) (I1.hok.fresh (Nat.le_refl _))
theorem pi_enumS {e : Expr} {ta : TA} {p pos tpos : Pos} {elts : List Expr} {kk : Nat} (hg : Gl X "enumerate") (hm : X.mg "enumerate" = none) (ha : PA X [e] ta) (hs : starEach [e] X.env = [(false, eval e X.env)] := by rfl) :
    PI X (.Tuple elts kk tpos) (.Call (.Name "enumerate" p) [e] [] pos) (iEnumS X.K ta) := by
  refine ⟨fun pins s σ H R I h => ?_⟩
  refine Call_ (ld_blt I hg hm boot_enumerate (PyProof.Rows.callWith_type1 (thn (ha.run pos pins s σ H _ I h) fun us s1 ⟨vs, H1, I1, r1, q1⟩ => ?_) hs rfl))
  obtain ⟨a, xs, ex, q⟩ := q1
  subst ex
  obtain ⟨u, rfl, ru⟩ := Vals.one r1
  cases ru
  have fp : ∀ b ∈ [s1.heap.objs.size + 1, s1.heap.objs.size], FpOk X pins H1 b := fun b hb => by
    have hle : s1.heap.objs.size ≤ b := by
      have e' : b = s1.heap.objs.size + 1 ∨ b = s1.heap.objs.size := by simpa using hb
      rcases e' with z | z
      · rw [z]; exact Nat.le_add_right _ _
      · rw [z]; exact Nat.le_refl _
    exact I1.fpOk hle (I1.hok.fresh hle)
  rcases q with ⟨hq, q⟩ | ⟨hq, q⟩
  · obtain ⟨its, rv, p', hz⟩ := I1.list hq
    refine call_enumerate_list p'.isList fun h' he hit hsz hk => wpAny_pyIter_enum he ?_
    exact ⟨s1.heap.objs.size + 1, [s1.heap.objs.size + 1, s1.heap.objs.size], _, _, H1, rfl, I1.kept (t' := s1.toks) hk, turn_enum a (s1.heap.objs.size + 1) s1.heap.objs.size, ⟨⟨.none, he⟩, hit, Nat.succ_ne_self _⟩, fp, q⟩
  · obtain ⟨its, rv, p', hz⟩ := I1.tuple hq
    refine enum_one (begins_tuple a its.toArray) (show s1.heap.IsTuple a its.toArray from p') fun h' he hit hk => wpAny_pyIter_enum he ?_
    exact ⟨s1.heap.objs.size + 1, [s1.heap.objs.size + 1, s1.heap.objs.size], _, _, H1, rfl, I1.kept (t' := s1.toks) hk, turn_enumU a (s1.heap.objs.size + 1) s1.heap.objs.size, ⟨⟨.none, he⟩, ⟨_, hit, rfl, rfl⟩, Nat.succ_ne_self _⟩, fp, q⟩
end
theorem walk_enumU {K : PySem.W.Frag} {a : Addr} {xs : List V} : Walk (ItU K a) xs.length (fun H => SqT K H a xs) (YPair (fun i => some (.int (i : Nat))) (fun i => xs[i]?)) where
  goes := fun i H hi g => ⟨xs, xs[i], g, by simp [hi]⟩
  stops := fun H g => ⟨xs, g, Nat.le_refl _⟩
  yields := fun i H x H' hi g ⟨T, y, e1, e2, e3, e4⟩ => ⟨T, .int (i : Nat), y, e1, e2, e3, rfl, e4 xs g⟩
end Fx
/-! ==== FxDict ==== -/
/-! Dicts: == of tables of data, sorted keys, the greatest value, update by a dict, comprehensions over any walk. -/
namespace Fx
open PySem PySem.Spec PyProof.Rows L2
section
variable {X : Cx} {pins : List (Addr × Obj)} {σ : L2.St} {H : Hp} {s : Shared}
/-- equal as data -/
def SameData (K : PySem.W.Frag) (H : Hp) (x y : V) : Prop := ∃ d e, Dp K H x d ∧ Dp K H y e ∧ SeqAt.shaped d = true ∧ SeqAt.shaped e = true ∧ d.depth ≤ 60 ∧ PyData.eqv d e = true
theorem sameData_at (I : Inv X pins σ H s) {A : Around} (hu : A.units + 60 < cLine) {x y : V} {v u : Value} (h : SameData X.K H x y) (rx : RelV x v) (ry : RelV y u) : SeqAt.EqAt A s v u true := by
  obtain ⟨d, e, hd, he, sd, se, dd, q⟩ := h
  obtain ⟨as, r1⟩ := Dp.reads I d x v hd rx
  obtain ⟨bs, r2⟩ := Dp.reads I e y u he ry
  have z := SeqAt.eqAt_reads d e A s v u as bs r1 r2 (SeqAt.canLay_of_shaped sd) (SeqAt.canLay_of_shaped se) (by have := Nat.min_le_left d.depth e.depth; omega)
  rw [q] at z
  exact z
theorem hitsData (I : Inv X pins σ H s) {A : Around} (hu : A.units + 60 < cLine) {ls : List (Key × V)} {vb : List (Key × Value)} (rb : KV ls vb) {ks : List (Key × V)} {va : List (Key × Value)} (ra : KV ks va) :
    (∀ p ∈ ks, ∃ u, valV ls p.1 = some u ∧ SameData X.K H p.2 u) → PySem.W.KeqHits A s vb va true := by
  unfold KV at ra
  induction ra with
  | nil => exact fun _ => .nil
  | @cons p q ps qs h t k =>
    intro hp
    obtain ⟨h1, h2⟩ := h
    obtain ⟨u, e, f⟩ := hp p List.mem_cons_self
    have rr : RelO (some u) (valueAt vb p.1) := by
      rw [← e]
      exact rb.val p.1
    obtain ⟨y, hy, ry⟩ := rr.some_of
    obtain ⟨key, v⟩ := q
    have h1' : p.1 = key := h1
    rw [h1'] at hy
    show PySem.W.KeqHits A s vb ((key, v) :: qs) (true && true)
    exact .hit hy (sameData_at I hu f h2 ry) (k fun p' hm => hp p' (List.mem_cons_of_mem _ hm))
end
section
variable {X : Cx}
def rDataD (r : Bool) (K : PySem.W.Frag) : R2 := fun x y H Q => ∃ a b ks ls, x = .ref a ∧ y = .ref b ∧ H a = some (.dK ks) ∧ H b = some (.dK ls) ∧ ks.length = ls.length ∧ (∀ p ∈ ks, ∃ u, valV ls p.1 = some u ∧ SameData K H p.2 u) ∧ Q (.bl r) H
theorem op_eqDD (hu : X.A.units + 64 < cLine) : OpR X (compareOp .Eq) (rDataD true X.K) := by
  intro pins s σ H x y v u Q I rx ry h
  obtain ⟨a, b, ks, ls, rfl, rfl, ea, eb, hlen, hp, q⟩ := h
  obtain rfl : v = Value.ref a := rx
  obtain rfl : u = Value.ref b := ry
  obtain ⟨_, ya, va, ra, da⟩ := (show ObjOk X.prog X.w H s.heap a (.dK ks) from I.hok a _ ea)
  obtain ⟨_, yb, vb, rb, db⟩ := (show ObjOk X.prog X.w H s.heap b (.dK ls) from I.hok b _ eb)
  have hl : va.length = vb.length := by rw [← ra.length, ← rb.length]; exact hlen
  refine PySem.W.keq_eq (knd := mixKind X.prog X.w) (r := true) ya yb da db (by omega) (fun _ => hitsData I (by show X.A.units + 1 + 60 < cLine; omega) rb ra hp) ?_
  rw [show (va.length == vb.length && true) = true by rw [hl]; simp]
  exact ⟨.bl true, H, I, rfl, q⟩
theorem op_neDD (hu : X.A.units + 64 < cLine) : OpR X (compareOp .NotEq) (rDataD false X.K) := by
  intro pins s σ H x y v u Q I rx ry h
  obtain ⟨a, b, ks, ls, rfl, rfl, ea, eb, hlen, hp, q⟩ := h
  obtain rfl : v = Value.ref a := rx
  obtain rfl : u = Value.ref b := ry
  obtain ⟨_, ya, va, ra, da⟩ := (show ObjOk X.prog X.w H s.heap a (.dK ks) from I.hok a _ ea)
  obtain ⟨_, yb, vb, rb, db⟩ := (show ObjOk X.prog X.w H s.heap b (.dK ls) from I.hok b _ eb)
  have hl : va.length = vb.length := by rw [← ra.length, ← rb.length]; exact hlen
  refine PySem.W.keq_ne (knd := mixKind X.prog X.w) (r := true) ya yb da db (by omega) (fun _ => hitsData I (by show X.A.units + 1 + 60 < cLine; omega) rb ra hp) ?_
  rw [show (!(va.length == vb.length && true)) = false by rw [hl]; simp]
  exact ⟨.bl false, H, I, rfl, q⟩
/-- sorted(d), a dict of whole numbers, fewer than 64 -/
theorem cr_sortedDI (hcalm : X.calm = true) : CallR X (.builtin "sorted") (fun xs H Q => ∃ (a : Addr) (kvs : List (Key × V)) (ks : List Int), xs = [.ref a] ∧ Rd H a (.dK kvs) ∧ kvs.map (·.1) = ks.map Sum.inl ∧ ks.length < 64 ∧
    ∀ (ys : List Int) p, ys.Perm ks → ys.Pairwise (· ≤ ·) → H p = none → Q (.ref p) (upd H p (.lst (ys.map V.int)))) := by
  intro pins s σ H xs us Q I r q
  obtain ⟨a, kvs, ks, ex, hd, hks, h64, q⟩ := q
  subst ex
  obtain ⟨u, eu, rx⟩ := Vals.one r
  subst eu
  cases rx
  obtain ⟨z, lo, vs, rel, dd⟩ := dk_rd I.hok hd
  obtain ⟨ep, hat⟩ := dd.dictAt
  have hkeys : vs.map (·.1) = ks.map Sum.inl := rel.keys.symm.trans hks
  have hl : vs.length = ks.length := by
    have e := congrArg List.length hkeys
    rw [List.length_map, List.length_map] at e
    exact e
  have h16 : vs.length ≤ sizeLine := by rw [hl, sizeLine_eq]; omega
  refine Calls.call_function_entry PyProof.Rows.kind_sorted PyProof.Rows.plain_sorted PyProof.Rows.entry_sorted (PyProof.Rows.args_sorted1 _) ?_
  unfold Builtin.«sorted»
  refine wpAny_bind (m := checkCount "sorted" 1 1 _) (wpAny_pure ?_)
  refine wpAny_bind (PySem.W.kdu_collect (A := X.A.in1) (PySem.W.kdl_dict (knd := mixKind X.prog X.w) (kvs := vs) (ep := ep) lo) (I.ok.hd hcalm) hat h16 fun h' tk acc hk hacc => ?_)
  have hal : acc.toList.length = ks.length := by rw [Array.length_toList, hacc.1, hl]
  have at_ : ∀ (j : Nat) (v : Value), acc.toList[j]? = some v → ∃ t, v = .int (ks.getD j 0) t := by
    intro j v e
    obtain ⟨k, x, e1, e2⟩ := hacc.2 j v (by rw [← Array.getElem?_toList]; exact e)
    have e3 : (vs.map (·.1))[j]? = some k := by
      rw [List.getElem?_map, e1]
      rfl
    rw [hkeys, List.getElem?_map] at e3
    cases e4 : ks[j]? with
    | none => rw [e4] at e3; cases e3
    | some y =>
      rw [e4] at e3
      have e5 : Sum.inl y = k := Option.some.inj e3
      subst e5
      obtain ⟨t, ev⟩ := Value.isInt_shape (k := y) (v := v) e2
      refine ⟨t, ?_⟩
      rw [ev, List.getD_eq_getElem?_getD, e4]
      rfl
  have hS : IntsAre acc.toList ks := by
    have hv : Vals (ks.map V.int) acc.toList := by
      have e0 : ks.map V.int = (List.range acc.toList.length).map (fun i => V.int (ks.getD i 0)) := by
        rw [hal]
        apply List.ext_getElem?
        intro i
        rw [List.getElem?_map, List.getElem?_map]
        by_cases hi : i < ks.length
        · rw [List.getElem?_range hi, List.getElem?_eq_getElem hi]
          simp [List.getD_eq_getElem?_getD, hi]
        · rw [List.getElem?_eq_none (by omega), List.getElem?_eq_none (by simp; omega)]
          rfl
      rw [e0]
      exact vals_of_get _ _ fun j u e => at_ j u e
    exact Vals.ints hv
  have I1 : Inv X pins σ H { s with heap := h', toks := tk } := I.kept hk
  refine wpAny_bind (wpAny_newList ?_ (by rw [hal, sizeLine_eq]; omega))
  have hoL : (h'.push (seqObj "list" acc.toList.toArray 0)).get? h'.objs.size = some (seqObj "list" acc.toList.toArray 0) := Heap.get?_push_size _ rfl
  show wpAny _ _ _ _ _ { s with heap := h'.push (seqObj "list" acc.toList.toArray 0), toks := tk }
  refine wpAny_bind (wpAny_holding (wpAny_call_entry PyProof.Rows.slot_list_sort ⟨_, hoL, rfl⟩ PyProof.Rows.entry_list_sort
    (PyProof.Rows.list_sort_tree (s := { s with heap := h'.push (seqObj "list" acc.toList.toArray 0), toks := tk }) hoL hS (by rw [hal]; exact h64) fun out ns' g1 g2 g3 => ⟨_, rfl, ?_⟩) (PyProof.Rows.args_list_sort _)))
  obtain ⟨e', he'⟩ := PyProof.Rows.sortedHeap_at (vs := acc.toList) (out := out) hoL
  have hlen : (ns'.map V.int).length ≤ sizeLine := by
    rw [List.length_map, g2.length_eq]
    exact small64 h64
  refine wpAny_pure ⟨_, rfl, .ref h'.objs.size, upd H h'.objs.size (.lst (ns'.map V.int)), I1.laid (t' := tk) (fun b u e => ?_) (Nat.le_refl _)
    (show ObjOk X.prog X.w _ _ _ (.lst (ns'.map V.int)) from ⟨hlen, out.toList, e', vals_of_ints g1, by rw [Array.toArray_toList]; exact he'⟩), rfl, q ns' _ g2 g3 (I1.hok.fresh (Nat.le_refl _))⟩
  have hb : b < h'.objs.size := Heap.lt_size e
  rw [PyProof.Rows.sortedHeap_old (Nat.ne_of_lt hb) (by rw [Heap.size_push]; exact Nat.lt_succ_of_lt hb)]
  exact Heap.get?_push_of_some _ e
/-- d.update(e), e a dict -/
def rUpd : V → List V → Hp → VK → Prop := fun x vs H Q => ∃ a b kvs more, x = .ref a ∧ vs = [.ref b] ∧ a ≠ b ∧ H a = some (.dK kvs) ∧ Rd H b (.dK more) ∧ kvs.length + more.length ≤ sizeLine ∧ Q .non (upd H a (.dK (mergeK kvs more)))
theorem mt_update : MtR X "dict.update" rUpd := by
  intro pins s σ H x xs v us Q I rx rv h
  obtain ⟨a, b, kvs, more, rfl, rfl, hab, ha, hb, hz, q⟩ := h
  cases rx
  obtain ⟨u, rfl, ru⟩ := Vals.one rv
  cases ru
  obtain ⟨z1, y1, vs1, r1, d1⟩ := dk_of I.hok ha
  obtain ⟨z2, y2, vs2, r2, d2⟩ := dk_rd I.hok hb
  refine call_meetsIn F.slot_dict_update d1.typeIs F.entry_dict_update (F.args_dict_update_2 _ _) (meets_dict_update (mixKind X.prog X.w) a b hab y2)
    ⟨vs1, vs2, d1, d2, by rw [← r1.length, ← r2.length]; exact hz, fun h' hd' ho' hs => ?_⟩
  refine ⟨.non, _, d_write I (by rw [ha]; trivial) hs ?_ ?_, rfl, q⟩
  · obtain ⟨o, es, ep, e, _⟩ := hd'
    exact ⟨_, e⟩
  · exact dk_new (Nat.le_trans (length_mergeK _ _) hz) y1 (KV.merge r2 r1) hd'
/-- max(d.values()), whole numbers, not empty -/
def tMaxVals (td : TE) : TE := fun σ H Q => td σ H fun x H1 => ∃ a kvs is, x = V.ref a ∧ Rd H1 a (.dK kvs) ∧ kvs.map (·.2) = is.map V.int ∧ is ≠ [] ∧ ∀ m, m ∈ is → (∀ j ∈ is, j ≤ m) → Q (.int m) H1
theorem pe_maxVals {o : Expr} {p pos apos mpos : Pos} {td : TE} (hc : X.calm = true) (hg : Gl X "max") (hm : X.mg "max" = none) (hd : PE X o td) (hbase : attributeBase o "values" X.env (eval o X.env) = eval o X.env) (hline : (apos.endLine == mpos.line) = true)
    (hse : starEach [Expr.Call (.Attribute o "values" apos) [] [] mpos] X.env = [(false, eval (Expr.Call (.Attribute o "values" apos) [] [] mpos) X.env)]) :
    PE X (.Call (.Name "max" p) [.Call (.Attribute o "values" apos) [] [] mpos] [] pos) (tMaxVals td) := by
  refine ⟨fun pins s σ H Q I h => ?_⟩
  refine wpAny_Call_Name_kw (ld_blt I hg hm (u := .builtin "max") (by first | rfl | decide +kernel) ?_ (by first | decide +kernel | decide) (by first | decide +kernel | decide))
  rw [hse]
  refine PySem.callWith_builtin1 (wpAny_Call_method0_late hbase hline (thn (hd.run pins s σ H _ I h) fun v s1 ⟨x, H1, I1, r1, a, kvs, is, ex, ha, hv, hne, q⟩ => ?_))
  subst ex
  obtain rfl : v = Value.ref a := r1
  obtain ⟨_, hsys, vs, rel, dof⟩ := dk_rd I1.hok ha
  obtain ⟨ep, dat⟩ := dof.dictAt
  obtain ⟨ob, es, ho, ex, hdat, hko, hpr, hnd⟩ := id dat
  refine ⟨"dict", "dict.values", F.plainAttrs_dict, F.slot_dict_values, F.type_dict_values, ⟨ob, ho, ex.1⟩, fun b e => ?_, Calls.callWith_builtin rfl (PySem.evalArgs_none ?_)⟩
  · cases e
    exact ⟨ob, ho, ex.2.1⟩
  refine call_meetsIn F.slot_dict_values ⟨ob, ho, ex.1⟩ F.entry_dict_values (F.args_dict_values_1 _) (meets_dict_values (mixKind X.prog X.w) a hsys) ⟨⟨vs, dof⟩, ?_⟩
  have k1 : ∀ b u, s1.heap.get? b = some u → (s1.heap.push { cls := .type "dict_values", data := .fields #[.ref a] }).get? b = some u := fun b u e => Heap.get?_push_of_some _ e
  have dat1 : (s1.heap.push { cls := .type "dict_values", data := .fields #[.ref a] }).DictAt (mixKind X.prog X.w) a vs ep := dat.keep k1
  have hlv : vs.length = is.length := by
    have e1 := congrArg List.length hv
    rw [List.length_map, List.length_map] at e1
    rw [← e1]
    exact (KV.length rel).symm
  have hlen : 0 < vs.length := by
    rw [hlv]
    exact List.length_pos_iff.mpr hne
  have hval : ∀ (i : Nat) (v : Value), (∃ k, vs[i]? = some (k, v)) → ∃ t, v = Value.int (is.getD i 0) t := by
    intro i v hk
    obtain ⟨k, hk⟩ := hk
    obtain ⟨x, h1, h2⟩ := KV.at' rel hk
    have e1 : (kvs.map (·.2))[i]? = some x := by
      rw [List.getElem?_map, h1]
      rfl
    rw [hv, List.getElem?_map] at e1
    obtain ⟨j, hj, e2⟩ := Option.map_eq_some_iff.mp e1
    subst e2
    obtain ⟨t, e3⟩ := h2
    refine ⟨t, ?_⟩
    rw [e3, List.getD_eq_getElem?_getD, hj]
    rfl
  refine call_max_walk (wpAny_pyIter_values (v := s1.heap.objs.size) (d := a) ⟨_, Heap.get?_push_size _ rfl, rfl, rfl⟩ dat1 ?_)
  have hlt : a < s1.heap.objs.size := Heap.lt_size ho
  have hsz : (s1.heap.push { cls := .type "dict_values", data := .fields #[.ref a] }).objs.size = s1.heap.objs.size + 1 := Heap.size_push _ _
  refine ⟨_, _, _, _, _, _, _, rfl, Walks.dictValues (knd := mixKind X.prog X.w) (A := X.A.in1) (I.ok.hd hc) (s1.heap.push { cls := .type "dict_values", data := .fields #[.ref a] }).objs.size a (by rw [hsz]; exact Nat.ne_of_lt (Nat.lt_succ_of_lt hlt)) vs ep,
    ⟨⟨_, Heap.get?_push_size _ rfl, rfl, rfl⟩, dat1.keep fun b u e => Heap.get?_push_of_some _ e⟩, fun b hb => ?_, hlen, CmpOf.ints_gt (fun i => is.getD i 0) hval, fun v h' tk hP hk => ?_⟩
  · show b < ((s1.heap.push _).push _).objs.size
    rw [Heap.size_push, Heap.size_push]
    rw [hsz] at hb
    rcases List.mem_cons.mp hb with e | hb
    · rw [e]
      exact Nat.lt_succ_self _
    · rw [List.mem_singleton.mp hb]
      exact Nat.lt_succ_of_lt (Nat.lt_succ_of_lt hlt)
  · obtain ⟨t, rfl⟩ := hval _ v hP
    obtain ⟨b1, b2⟩ := argBest_gt (fun i => is.getD i 0) (vs.length - 1)
    refine ⟨.int _, H1, I1.kept (t' := tk) fun b u e => hk b u (fun hmem => ?_) (Heap.get?_push_of_some _ (k1 b u e)), ⟨t, rfl⟩, q _ ?_ fun j hj => ?_⟩
    · have e1 : b = (s1.heap.push { cls := .type "dict_values", data := .fields #[.ref a] }).objs.size := List.mem_singleton.mp hmem
      have e2 := Heap.lt_size e
      rw [hsz] at e1
      rw [e1] at e2
      exact absurd e2 (Nat.not_lt.mpr (Nat.le_succ _))
    · have hb : argBest (fun i j => decide (is.getD i 0 > is.getD j 0)) (vs.length - 1) < is.length := by omega
      rw [List.getD_eq_getElem?_getD, List.getElem?_eq_getElem hb]
      exact List.getElem_mem hb
    · obtain ⟨i, hi, e⟩ := List.mem_iff_getElem.mp hj
      have e2 : is.getD i 0 = j := by
        rw [List.getD_eq_getElem?_getD, List.getElem?_eq_getElem hi, ← e]
        rfl
      rw [← e2]
      exact b2 i (by omega)
end
/-- a dict comprehension over any walk: Pv by the turn and the heap (the new dict at D within) -/
theorem dc_it {J : It} {n : Nat} {G : Hp → Prop} {Y : Nat → Hp → V → Hp → Prop} (w : Walk J n G Y) {g : TG} {tt : TT} {tk tv : TE} {vs : List Nat} {σ : L2.St} {H1 : Hp} {D : Addr} {Qd : Hp → Prop} (Pv : Nat → Hp → Prop) (h0 : Pv 0 (upd H1 D (.dK []))) (hG : ∀ i H, i ≤ n → Pv i H → G H)
    (hs : ∀ i x H H', i < n → Pv i H → Y i H x H' → g x (wipe σ vs) H' fun σ2 H2 => wipe σ2 vs = wipe σ vs ∧ tt σ2 H2 fun b H3 =>
      if b = true then tk σ2 H3 fun y H4 => tv σ2 H4 fun z H5 => ∃ kvs k, y = kV k ∧ H5 D = some (.dK kvs) ∧ kvs.length < sizeLine ∧ Pv (i + 1) (upd H5 D (.dK (putK kvs k z))) else Pv (i + 1) H3) (hd : ∀ H, Pv n H → Qd H) :
    ∃ W : Nat → Nat → Hp → Prop, (∃ m, W 0 m (upd H1 D (.dK []))) ∧ ∀ i m H, W i m H →
      (J.stop i H ∧ Qd H) ∨ (J.go i H ∧ ∃ Nx : Hp → Prop, (∀ H', Nx H' → ∃ m', m' < m ∧ W (i + 1) m' H') ∧ ∀ x H', J.yld i H x H' → g x (wipe σ vs) H' fun σ2 H2 => wipe σ2 vs = wipe σ vs ∧ tt σ2 H2 fun b H3 =>
        if b = true then tk σ2 H3 fun y H4 => tv σ2 H4 fun z H5 => ∃ kvs k, y = kV k ∧ H5 D = some (.dK kvs) ∧ kvs.length < sizeLine ∧ Nx (upd H5 D (.dK (putK kvs k z))) else Nx H3) := by
  refine ⟨fun i m H => m = n - i ∧ i ≤ n ∧ Pv i H, ⟨n, by simp, Nat.zero_le _, h0⟩, ?_⟩
  rintro i m H ⟨rfl, hi, p⟩
  have q := hG i H hi p
  by_cases hlt : i < n
  · exact .inr ⟨w.goes i H hlt q, Pv (i + 1), fun H' p' => ⟨n - (i + 1), by omega, rfl, hlt, p'⟩, fun x H' y => hs i x H H' hlt p (w.yields i H x H' hlt q y)⟩
  · have e : i = n := by omega
    subst e
    exact .inl ⟨w.stops H q, hd H p⟩
end Fx
/-! ==== FxHead ==== -/
/-! A head's Hook that tells the getters of properties besides, and what isinstance asks of an own class. -/
namespace Fx
open PySem PySem.Spec PyProof.Rows L2
/-- the property f of the class C: its getter's address -/
def gAd (K : PySem.W.Frag) (p : Str × Str) : Addr := match PySem.W.recIn K (He.ma K (He.ga K p.1) p.2) "property" with
  | some (.ref g :: _) => g
  | _ => 0
def fnWA (K : PySem.W.Frag) (a : Addr) : He.FnW := match K.lookup a with
  | some ⟨_, _, .func fd, _⟩ => some (fd.name, fd.qualname, fd.params, fd.body, fd.scope, fd.globals, fd.closure, fd.builtins)
  | _ => none
structure GetD where
  at_ : Str × Str
  name : Str
  qual : Str
  params : Arguments
  body : List Stmt
  scope : Scope
def GetD.val (d : GetD) : He.FnW := some (d.name, d.qual, d.params, .stmts d.body, d.scope, mainGlobals, [], builtinsNs)
def GetD.ok (K : PySem.W.Frag) (d : GetD) : Bool :=
  PySem.W.keepIn K (.ref (gAd K d.at_)) && ((match K.lookup (gAd K d.at_) with
    | some ⟨_, _, .func fd, _⟩ => PySem.W.codeIn K fd.code d.qual && (He.dflB K fd.defaults [] && He.kwdB K fd.kwdefaults [])
    | _ => false) && (He.eqO (PySem.W.findIn K (.ref (He.ga K d.at_.1)) d.at_.2) (some (some (.ref (He.ma K (He.ga K d.at_.1) d.at_.2)))) &&
      (He.eqO (PySem.W.specialIn K (.ref (He.ma K (He.ga K d.at_.1) d.at_.2)) "__get__") (some (some (.builtin "property.__get__"))) &&
        (decide (PySem.W.takesIn K (.ref (He.ma K (He.ga K d.at_.1) d.at_.2)) = some true) && (match PySem.W.recIn K (He.ma K (He.ga K d.at_.1) d.at_.2) "property" with
          | some (.ref _ :: _) => true
          | _ => false)))))
/-- what the end gets of a getter -/
structure GetF (K : PySem.W.Frag) (d : GetD) : Prop where
  ex : ∃ fd, FunD K d.name d.qual d.params d.body d.scope [] [] (gAd K d.at_) fd
  prop : PropOf K (He.ga K d.at_.1) d.at_.2 (He.ma K (He.ga K d.at_.1) d.at_.2) (gAd K d.at_)
theorem GetD.get {K : PySem.W.Frag} {d : GetD} (e : fnWA K (gAd K d.at_) = d.val) (c : d.ok K = true) : GetF K d := by
  obtain ⟨kp, c⟩ := He.ba c
  obtain ⟨c2, c⟩ := He.ba c
  obtain ⟨c3, c⟩ := He.ba c
  obtain ⟨c4, c⟩ := He.ba c
  obtain ⟨c5, c6⟩ := He.ba c
  refine ⟨?_, He.eqO_ok c3, He.eqO_ok c4, of_decide_eq_true c5, ?_⟩
  · unfold fnWA at e
    cases q : K.lookup (gAd K d.at_) with
    | none =>
      rw [q] at c2
      cases c2
    | some o =>
      obtain ⟨oc, od, dt, osl⟩ := o
      rw [q] at c2 e
      cases dt with
      | func fd =>
        obtain ⟨n1, n2, n3, n4, n5, n6, n7, n8, n9, n10, n11, n12, n13, n14, n15⟩ := fd
        have e2 : (some (n1, n2, n3, n4, n5, n6, n7, n15) : He.FnW) = some (d.name, d.qual, d.params, .stmts d.body, d.scope, mainGlobals, [], builtinsNs) := e
        simp only [Option.some.injEq, Prod.mk.injEq] at e2
        obtain ⟨h1, h2, h3, h4, h5, h6, h7, h8⟩ := e2
        subst h1 h2 h3 h4 h5 h6 h7 h8
        obtain ⟨k1, k2⟩ := He.ba (show (PySem.W.codeIn K n13 d.qual && (He.dflB K n8 [] && He.kwdB K n9 [])) = true from c2)
        obtain ⟨k3, k4⟩ := He.ba k2
        exact ⟨_, ⟨oc, od, n8, n9, n10, n11, n12, n13, n14, osl, rfl, q, k1, He.dflB_ok k3, He.kwdB_ok k4⟩, kp⟩
      | _ => cases c2
  · cases q : PySem.W.recIn K (He.ma K (He.ga K d.at_.1) d.at_.2) "property" with
    | none =>
      rw [q] at c6
      cases c6
    | some l =>
      rw [q] at c6
      cases l with
      | nil => cases c6
      | cons v r =>
        cases v with
        | ref g =>
          have eg : gAd K d.at_ = g := by
            unfold gAd
            rw [q]
          rw [eg]
          exact ⟨r, rfl⟩
        | _ => cases c6
/-- isinstance(x, C), C an own class that x is of -/
def insB (K : PySem.W.Frag) (x : Str) : Bool :=
  He.eqO (PySem.W.findIn K (.ref (He.ga K x)) "__class__") (some (some (.builtin "object.__class__"))) && (He.eqO (PySem.W.specialIn K (.builtin "object.__class__") "__get__") (some (some (.builtin "getset_descriptor.__get__"))) &&
    (decide (PySem.W.takesIn K (.builtin "object.__class__") = some true) && (decide (PySem.W.mroIn K (He.ga K x) (.type "object") = some true) && decide (PySem.W.kitOne K (.ref (He.ga K x)) (.ref (He.ga K x)) = some true))))
theorem insB_ok {K : PySem.W.Frag} {x : Str} (cl : Cls K (He.ga K x)) (h : insB K x = true) : C8.InsC K (He.ga K x) := by
  obtain ⟨h1, h⟩ := He.ba h
  obtain ⟨h2, h⟩ := He.ba h
  obtain ⟨h3, h⟩ := He.ba h
  obtain ⟨h4, h5⟩ := He.ba h
  exact ⟨cl, He.eqO_ok h1, He.eqO_ok h2, of_decide_eq_true h3, of_decide_eq_true h4, of_decide_eq_true h5⟩
/-! ### the Hook -/
abbrev AlP : Type := He.AlX × (Bool × List He.FnW)
abbrev ToldBy : Type := Nat × List He.Fa × List He.DefD × List He.Defn × List GetD × (PySem.W.Frag → Bool)
def seen (n : Nat) (g : Addr → Option Obj) : PySem.W.Frag := He.frT g (He.asD g n)
def obsP (n : Nat) (fa : List He.Fa) (fn : List He.DefD) (tf : List He.Defn) (gt : List GetD) (ex : PySem.W.Frag → Bool) (g : Addr → Option Obj) : AlP :=
  (He.obsX n fa fn [] tf ex g, (gt.all fun d => d.ok (seen n g)), gt.map fun d => fnWA (seen n g) (gAd (seen n g) d.at_))
def valP (fn : List He.DefD) (gt : List GetD) (w : World) : AlP := (He.valX fn [] w, true, gt.map GetD.val)
structure SaysP (fa : List He.Fa) (fn : List He.DefD) (tf : List He.Defn) (gt : List GetD) (ex : PySem.W.Frag → Bool) (w : World) (h : Heap) (K : PySem.W.Frag) : Prop where
  x : He.SaysX fa fn [] tf ex w h K
  g : ∀ d ∈ gt, GetF K d
theorem saysP_of {n : Nat} {fa : List He.Fa} {fn : List He.DefD} {tf : List He.Defn} {gt : List GetD} {ex : PySem.W.Frag → Bool} {w : World} {h : Heap} (e : obsP n fa fn tf gt ex h.get? = valP fn gt w) : SaysP fa fn tf gt ex w h (seen n h.get?) := by
  have e1 : He.obsX n fa fn [] tf ex h.get? = He.valX fn [] w := congrArg (fun z : AlP => z.1) e
  have e2 : (gt.all fun d => d.ok (seen n h.get?)) = true := congrArg (fun z : AlP => z.2.1) e
  have e3 : gt.map (fun d => fnWA (seen n h.get?) (gAd (seen n h.get?) d.at_)) = gt.map GetD.val := congrArg (fun z : AlP => z.2.2) e
  refine ⟨He.saysX_of e1, fun d hd => ?_⟩
  obtain ⟨i, hi, ed⟩ := List.mem_iff_getElem.mp hd
  have e4 : (gt.map fun d => fnWA (seen n h.get?) (gAd (seen n h.get?) d.at_))[i]? = (gt.map GetD.val)[i]? := by rw [e3]
  rw [List.getElem?_map, List.getElem?_map, List.getElem?_eq_getElem hi, ed] at e4
  exact GetD.get (Option.some.inj e4) (List.all_eq_true.mp e2 d hd)
def hookP (n : Nat) (fa : List He.Fa) (fn : List He.DefD) (tf : List He.Defn) (gt : List GetD) (ex : PySem.W.Frag → Bool) : PySem.W.Hook where
  α := AlP
  obs := fun s => obsP n fa fn tf gt ex s.heap.get?
  val := fun w => valP fn gt w
  says := fun w h => ∃ K : PySem.W.Frag, K.In h ∧ SaysP fa fn tf gt ex w h K
  of := fun _ _ e => ⟨_, He.frT_in, saysP_of e⟩
  keeps := fun _ _ _ ⟨K, hK, c⟩ k => ⟨K, PySem.W.Frag.In.keeps hK k, ⟨⟨c.x.t, c.x.more, c.x.hd, c.x.out, fun p hp => k _ _ (c.x.empty p hp)⟩, c.g⟩⟩
theorem obsP_eq {n : Nat} {fa : List He.Fa} {fn : List He.DefD} {tf : List He.Defn} {gt : List GetD} {ex : PySem.W.Frag → Bool} {g : Addr → Option Obj} {s : Shared} (h : ∀ a, g a = s.heap.get? a) : obsP n fa fn tf gt ex g = (hookP n fa fn tf gt ex).obs s := by
  have e : g = s.heap.get? := funext h
  rw [e]
  rfl
end Fx
/-! ==== Tx62 ==== -/
namespace K62
open PySem PySem.Spec PyProof.Rows L2
/-! the texts by place -/
def topS (i : Nat) : Stmt := PySem.Challenge.pw_whytold_k62_whole_odds_piece_by_piece.main.body.getD i (.Pass ⟨0, 0, 0, 0⟩)
abbrev s_PartError_init : Stmt := inClass (topS 2) 0
abbrev s_ItemError_init : Stmt := inClass (topS 3) 0
abbrev s_is_number : Stmt := topS 11
abbrev s_is_between : Stmt := topS 12
abbrev s_is_list : Stmt := topS 13
abbrev s_first_wrong : Stmt := topS 18
abbrev s_is_word : Stmt := topS 19
abbrev s_is_line : Stmt := topS 22
abbrev s_need_moves : Stmt := topS 23
abbrev s_need_words : Stmt := topS 24
abbrev s_Watch_init : Stmt := inClass (topS 25) 0
abbrev s_Watch_eq : Stmt := inClass (topS 25) 4
abbrev s_need_watch : Stmt := topS 26
abbrev s_need_shown : Stmt := topS 28
abbrev s_need_weights : Stmt := topS 31
abbrev s_divisor : Stmt := topS 33
abbrev s_power : Stmt := topS 34
abbrev s_fraction_of : Stmt := topS 35
abbrev s_heavier_by : Stmt := topS 36
abbrev s_numbers_by : Stmt := topS 37
abbrev s_words_by : Stmt := topS 38
abbrev s_odds_by : Stmt := topS 39
abbrev s_need_odds : Stmt := topS 40
abbrev s_odds : Stmt := topS 41
abbrev s_words_of : Stmt := topS 44
abbrev s_later_words : Stmt := topS 45
abbrev s_sure_at : Stmt := topS 46
abbrev s_need_timed : Stmt := topS 47
abbrev s_sure_times : Stmt := topS 48
abbrev s_mean_sure : Stmt := topS 49
abbrev s_greatest_of : Stmt := topS 51
abbrev s_best_guess : Stmt := topS 52
abbrev s_with_item : Stmt := topS 53
abbrev s_guessed_by : Stmt := topS 54
abbrev s_is_above : Stmt := topS 55
abbrev s_most_telling : Stmt := topS 56
abbrev s_law_begun : Stmt := topS 58
abbrev s_law_blend : Stmt := topS 59
abbrev s_law_draw : Stmt := topS 60
abbrev s_law_pick : Stmt := topS 61
abbrev s_law_watch : Stmt := topS 62
abbrev s_law_made : Stmt := topS 63
abbrev s_law_row : Stmt := topS 64
abbrev s_law_weights : Stmt := topS 65
abbrev s_law_common : Stmt := topS 66
abbrev s_law_fraction : Stmt := topS 67
abbrev s_law_numbers : Stmt := topS 68
abbrev s_law_shown_row : Stmt := topS 69
abbrev s_law_sum : Stmt := topS 70
abbrev s_law_begun_at : Stmt := topS 71
abbrev s_law : Stmt := topS 72
end K62
/-! ==== A62 ==== -/
namespace Fx
open PySem PySem.Spec PyProof.Rows L2
/-! ### heaps: all but the tables (and the objects of B) stay; the tables that Z names stay good -/
def Exb (Z : List (Addr × Str)) (B : List Addr) (H H' : Hp) : Prop := (∀ b o, b ∉ B → H b = some o → (∀ ps, o ≠ .tbl ps) → H' b = some o) ∧ (LamX.Tabs Z H → LamX.Tabs Z H')
abbrev Ex (Z : List (Addr × Str)) (H H' : Hp) : Prop := Exb Z [] H H'
/-- an object that is no table and no code object -/
def Mb : HO → Prop
  | .tbl _ => False
  | .ext _ => False
  | _ => True
section
variable {Z : List (Addr × Str)} {B : List Addr} {H H1 H2 H' : Hp} {K : PySem.W.Frag} {a p d : Addr} {xs : List V} {o u : HO}
theorem Mb.nt (h : Mb o) : ∀ ps, o ≠ .tbl ps := fun ps z => by
  rw [z] at h
  exact h
theorem Exb.refl (H : Hp) : Exb Z B H H := ⟨fun _ _ _ h _ => h, id⟩
theorem Exb.trans (x : Exb Z B H H1) (y : Exb Z B H1 H2) : Exb Z B H H2 := ⟨fun b o n h t => y.1 b o n (x.1 b o n h t) t, fun h => y.2 (x.2 h)⟩
theorem Exb.any (x : Ex Z H H') : Exb Z B H H' := ⟨fun b o _ h t => x.1 b o (by simp) h t, x.2⟩
theorem Ex.new (h : H p = none) : Ex Z H (upd H p o) := by
  have e : ∀ b u, H b = some u → upd H p o b = some u := fun b u e => by
    rw [upd_ne (ne_of_none e h)]
    exact e
  exact ⟨fun b u _ q _ => e b u q, fun t q hq => (t q hq).ext e⟩
theorem tabs_upd (h : LamX.Tabs Z H') (m : ∀ u, H' p = some u → Mb u) : LamX.Tabs Z (upd H' p o) := fun q hq => by
  obtain ⟨ps, h1, h2, h3⟩ := h q hq
  refine ⟨ps, ?_, h2, fun pos cv hc => ?_⟩
  · rw [upd_ne (fun z => (m (.tbl ps) (by rw [← z]; exact h1) : False))]
    exact h1
  · obtain ⟨c, e1, e2⟩ := h3 pos cv hc
    refine ⟨c, e1, ?_⟩
    rw [upd_ne (fun z => (m (LamX.CodeO c q.2) (by rw [← z]; exact e2) : False))]
    exact e2
theorem Mb.of (h : H' p = some o) (m : Mb o) : ∀ u, H' p = some u → Mb u := fun u e => by
  rw [h] at e
  rw [← Option.some.inj e]
  exact m
/-- an object that is new since H, or of B, is changed -/
theorem Exb.mut (x : Exb Z B H H') (h : p ∈ B ∨ H p = none) (m : ∀ u, H' p = some u → Mb u) : Exb Z B H (upd H' p o) := ⟨fun b u n e t => by
  have ne : b ≠ p := fun z => by
    rcases h with h | h
    · exact n (z ▸ h)
    · rw [z, h] at e
      cases e
  rw [upd_ne ne]
  exact x.1 b u n e t, fun t => tabs_upd (x.2 t) m⟩
theorem Exb.lstb (x : Exb Z B H H') (n : a ∉ B) (h : H a = some (.lst xs)) : H' a = some (.lst xs) := x.1 a _ n h fun ps z => nomatch z
theorem Exb.tupb (x : Exb Z B H H') (n : a ∉ B) (h : H a = some (.tup xs)) : H' a = some (.tup xs) := x.1 a _ n h fun ps z => nomatch z
theorem Exb.dkb {kvs : List (Key × V)} (x : Exb Z B H H') (n : a ∉ B) (h : H a = some (.dK kvs)) : H' a = some (.dK kvs) := x.1 a _ n h fun ps z => nomatch z
theorem Exb.frzb {od : Obj} (x : Exb Z B H H') (n : a ∉ B) (h : H a = some (.frz od u)) : H' a = some (.frz od u) := x.1 a _ n h fun ps z => nomatch z
theorem Exb.insb {C dx : Addr} {fs : List (Str × V)} (x : Exb Z B H H') (n : a ∉ B) (h : H a = some (.ins C dx fs)) : H' a = some (.ins C dx fs) := x.1 a _ n h fun ps z => nomatch z
theorem Exb.sqLb (x : Exb Z B H H') (n : a ∉ B) (h : SqL K H a xs) : SqL K H' a xs := by
  rcases h with (h | ⟨o, h⟩) | h
  · exact .inl (.inl (x.lstb n h))
  · exact .inl (.inr ⟨o, x.frzb n h⟩)
  · exact .inr h
theorem Exb.sqTb (x : Exb Z B H H') (n : a ∉ B) (h : SqT K H a xs) : SqT K H' a xs := by
  rcases h with (h | ⟨o, h⟩) | h
  · exact .inl (.inl (x.tupb n h))
  · exact .inl (.inr ⟨o, x.frzb n h⟩)
  · exact .inr h
theorem Exb.rdDb {kvs : List (Key × V)} (x : Exb Z B H H') (n : a ∉ B) (h : Rd H a (.dK kvs)) : Rd H' a (.dK kvs) := by
  rcases h with h | ⟨o, h⟩
  · exact .inl (x.dkb n h)
  · exact .inr ⟨o, x.frzb n h⟩
/-- what is new behind is new ahead -/
theorem Exb.back (x : Exb Z B H H') (n : p ∉ B) (nt : ∀ ps, H p ≠ some (.tbl ps)) (h : H' p = none) : H p = none := by
  cases q : H p with
  | none => rfl
  | some o =>
    have := x.1 p o n q fun ps z => nt ps (by rw [q, z])
    rw [h] at this
    cases this
/-- a list or a tuple -/
def SqS (K : PySem.W.Frag) (H : Hp) (a : Addr) (xs : List V) : Prop := SqL K H a xs ∨ SqT K H a xs
theorem Exb.sqSb (x : Exb Z B H H') (n : a ∉ B) (h : SqS K H a xs) : SqS K H' a xs := h.elim (fun z => .inl (x.sqLb n z)) fun z => .inr (x.sqTb n z)
theorem Exb.sqL (x : Ex Z H H') (h : SqL K H a xs) : SqL K H' a xs := Exb.sqLb x (by simp) h
theorem Exb.sqT (x : Ex Z H H') (h : SqT K H a xs) : SqT K H' a xs := Exb.sqTb x (by simp) h
theorem Exb.sqS (x : Ex Z H H') (h : SqS K H a xs) : SqS K H' a xs := Exb.sqSb x (by simp) h
theorem Exb.lst (x : Ex Z H H') (h : H a = some (.lst xs)) : H' a = some (.lst xs) := Exb.lstb x (by simp) h
theorem Exb.tup (x : Ex Z H H') (h : H a = some (.tup xs)) : H' a = some (.tup xs) := Exb.tupb x (by simp) h
theorem Exb.dk {kvs : List (Key × V)} (x : Ex Z H H') (h : H a = some (.dK kvs)) : H' a = some (.dK kvs) := Exb.dkb x (by simp) h
theorem Exb.frz {od : Obj} (x : Ex Z H H') (h : H a = some (.frz od u)) : H' a = some (.frz od u) := Exb.frzb x (by simp) h
theorem Exb.ins {C dx : Addr} {fs : List (Str × V)} (x : Ex Z H H') (h : H a = some (.ins C dx fs)) : H' a = some (.ins C dx fs) := Exb.insb x (by simp) h
theorem Exb.rdD {kvs : List (Key × V)} (x : Ex Z H H') (h : Rd H a (.dK kvs)) : Rd H' a (.dK kvs) := Exb.rdDb x (by simp) h
/-- a dict (or list) that is locked: behind it all is as it was -/
theorem Exb.locked {od : Obj} (m : Mb u) (hd : H d = some u) (x : Exb Z B (upd H d (.frz od u)) H') (hd2 : H' d = some (.frz od u)) : Exb Z B H (upd H' d u) := ⟨fun b o n e t => by
  by_cases q : b = d
  · rw [q] at e ⊢
    rw [hd] at e
    rw [← Option.some.inj e]
    exact upd_same
  · rw [upd_ne q]
    exact x.1 b o n (by rw [upd_ne q]; exact e) t, fun t => tabs_upd (x.2 (tabs_upd t (Mb.of hd m))) (Mb.of hd2 trivial)⟩
end
/-! ### defs by facts -/
/-- the module's name x is the def of the statement st -/
structure Df (K : PySem.W.Frag) (mg : Str → Option Value) (x : Str) (st : Stmt) (dvs : List V) : Prop where
  ex : ∃ f fd, FunD K x x (defArgs st) (defBody st) (defScope st) dvs [] f fd ∧ mg x = some (.ref f)
section
variable {P : Program} {w : World} {K : PySem.W.Frag} {mg : Str → Option Value} {base : Heap} {x : Str} {st : Stmt} {N ps : List Str} {k : Nat} {sp : Sp}
theorem Df.cal (D : Df K mg x st []) (S : FnScope N ps (defScope st))
    (hb : ∀ (kV doc pm : Value) (an : Option Addr) (cdv ct : Value) (us : List Value), us.length = ps.length → bindArgs (PySem.W.fnOf x x (defArgs st) (defBody st) (defScope st) .none kV doc pm an cdv ct) ⟨us, []⟩ = pure (ps.zip us))
    (len : ∀ vs H Q E, sp vs H Q E → vs.length = ps.length)
    (hbody : ∀ (f : Addr) (cdv : Value) (A : Around) (outer : List Env) (s : Shared) (H : Hp) (vs : List V) (Q : VK) (E : XK), Room k (A.deeper (envOfC x (defScope st) s.heap.objs.size f cdv)) → sp vs H Q E →
      ∃ t, PSs (cxOf CX0 P w K mg base N x (defScope st) f cdv A outer s H E).nox (defBody st) t ∧ t { nx := fun _ H' => Q .non H', rt := Q } (start N vs) H) : C8.Cal P w K mg base (k + 1) x sp [] := by
  obtain ⟨f, fd, F, hm⟩ := D.ex
  exact ⟨f, fd, ps, [], F.ok S len fun cdv A outer s H vs Q E hr h => (hbody f cdv A outer s H vs Q E hr h).imp fun t q => ⟨q.1.nox, q.2⟩, hm, F.kp, F.bindsN hb, .nil⟩
end
/-! ### the built-ins' names -/
theorem bt_isinstance : bootBuiltins "isinstance" = some (.builtin "isinstance") := by decide +kernel
theorem bt_len : bootBuiltins "len" = some (.builtin "len") := by decide +kernel
theorem bt_sum : bootBuiltins "sum" = some (.builtin "sum") := by decide +kernel
theorem bt_all : bootBuiltins "all" = some (.builtin "all") := by decide +kernel
theorem bt_sorted : bootBuiltins "sorted" = some (.builtin "sorted") := by decide +kernel
theorem bt_abs : bootBuiltins "abs" = some (.builtin "abs") := by decide +kernel
theorem bt_min : bootBuiltins "min" = some (.builtin "min") := by decide +kernel
theorem bt_max : bootBuiltins "max" = some (.builtin "max") := by decide +kernel
theorem bt_int : bootBuiltins "int" = some (.type "int") := by decide +kernel
theorem bt_bool : bootBuiltins "bool" = some (.type "bool") := by decide +kernel
theorem bt_list : bootBuiltins "list" = some (.type "list") := by decide +kernel
theorem bt_tuple : bootBuiltins "tuple" = some (.type "tuple") := by decide +kernel
/-- what the module's names of the built-ins, its constants, its class stand for -/
structure Txt (K : PySem.W.Frag) (mg : Str → Option Value) (C : Addr) : Prop where
  abs : mg "abs" = none
  all : mg "all" = none
  bool : mg "bool" = none
  enumerate : mg "enumerate" = none
  int : mg "int" = none
  isinstance : mg "isinstance" = none
  len : mg "len" = none
  list : mg "list" = none
  max : mg "max" = none
  min : mg "min" = none
  range : mg "range" = none
  sorted : mg "sorted" = none
  sum : mg "sum" = none
  tuple : mg "tuple" = none
  c_MOST_EVENTS : ∃ u, mg "MOST_EVENTS" = some u ∧ RelV (.int 300) u
  c_MOST_KINDS : ∃ u, mg "MOST_KINDS" = some u ∧ RelV (.int 4) u
  c_MOST_WORD : ∃ u, mg "MOST_WORD" = some u ∧ RelV (.int 3) u
  c_MOST_PLACES : ∃ u, mg "MOST_PLACES" = some u ∧ RelV (.int 6) u
  c_MOST_PRICE : ∃ u, mg "MOST_PRICE" = some u ∧ RelV (.int 1000000) u
  c_MOST_LENGTH : ∃ u, mg "MOST_LENGTH" = some u ∧ RelV (.int 40) u
  g_Watch : ∃ u, mg "Watch" = some u ∧ RelV (.ref C) u
  cl : Cls K C
  noM : NoAttr K C "own_moves"
  noW : NoAttr K C "own_words"
  ins : C8.InsC K C
/-- the place of a name that is stored -/
theorem or_dum {a b : Prop} (h : a ∨ b) : a ∨ b := h
end Fx
/-! ==== FxRead ==== -/
/-! Helpers for the readings: answers of tests, walks over what may be a list or a tuple, comprehensions that leave all else as it was. -/
namespace Fx
open PySem PySem.Spec PyProof.Rows L2
section
variable {x y : V} {p : Prop} [Decidable p]
theorem eqT (h : x = y) : V.bl (decide (x = y)) = V.bl true := congrArg V.bl (decide_eq_true h)
theorem eqF (h : x ≠ y) : V.bl (decide (x = y)) = V.bl false := congrArg V.bl (decide_eq_false h)
theorem neT (h : x ≠ y) : V.bl (!decide (x = y)) = V.bl true := by rw [decide_eq_false h]; rfl
theorem neF (h : x = y) : V.bl (!decide (x = y)) = V.bl false := by rw [decide_eq_true h]; rfl
theorem blT (h : p) : V.bl (decide p) = V.bl true := congrArg V.bl (decide_eq_true h)
theorem blF (h : ¬ p) : V.bl (decide p) = V.bl false := congrArg V.bl (decide_eq_false h)
end
section
variable {Z : List (Addr × Str)} {B : List Addr} {H H1 H2 H' : Hp} {K : PySem.W.Frag} {a D d : Addr} {xs acc : List V}
theorem Exb.new (h : H D = none) {o : HO} : Exb Z B H (upd H D o) := (Ex.new h).any
/-- neither a sequence, nor a table, nor locked -/
def Mi : HO → Prop
  | .dK _ => True
  | .ins _ _ _ => True
  | .own _ => True
  | _ => False
theorem Exb.sqLm (x : Exb Z B H H') (n : a ∈ B → ∀ u, H a = some u → Mi u) (h : SqL K H a xs) : SqL K H' a xs := by
  by_cases hb : a ∈ B
  · rcases h with (h | ⟨o, h⟩) | h
    · exact ((n hb _ h : Mi (.lst xs)) : False).elim
    · exact ((n hb _ h : Mi (.frz o (.lst xs))) : False).elim
    · exact .inr h
  · exact x.sqLb hb h
theorem Exb.sqTm (x : Exb Z B H H') (n : a ∈ B → ∀ u, H a = some u → Mi u) (h : SqT K H a xs) : SqT K H' a xs := by
  by_cases hb : a ∈ B
  · rcases h with (h | ⟨o, h⟩) | h
    · exact ((n hb _ h : Mi (.tup xs)) : False).elim
    · exact ((n hb _ h : Mi (.frz o (.tup xs))) : False).elim
    · exact .inr h
  · exact x.sqTb hb h
/-- a walk over a list or a tuple -/
theorem seqS {R : It → Hp → Prop} (h : SqS K H a xs) (q : ∀ J G, Walk J xs.length G (YAt xs) → (∀ Z B H', (a ∈ B → ∀ u, H a = some u → Mi u) → Exb Z B H H' → G H') → R J H) : (SqL K H a xs ∧ R (Itl K a) H) ∨ (SqT K H a xs ∧ R (Itt K a) H) :=
  h.elim (fun z => .inl ⟨z, q _ _ walk_list fun Z B H' n x => x.sqLm n z⟩) fun z => .inr ⟨z, q _ _ walk_tup fun Z B H' n x => x.sqTm n z⟩
theorem enumS {R : It → Hp → Prop} (h : SqS K H a xs) (q : ∀ J G, Walk J xs.length G (YPair (fun i => some (.int (i : Nat))) (fun i => xs[i]?)) → (∀ Z B H', (a ∈ B → ∀ u, H a = some u → Mi u) → Exb Z B H H' → G H') → R J H) : (SqL K H a xs ∧ R (Ite K a) H) ∨ (SqT K H a xs ∧ R (ItU K a) H) :=
  h.elim (fun z => .inl ⟨z, q _ _ walk_enum fun Z B H' n x => x.sqLm n z⟩) fun z => .inr ⟨z, q _ _ walk_enumU fun Z B H' n x => x.sqTm n z⟩
/-- within a comprehension: the new list at D, all else as it was -/
def LcP (Z : List (Addr × Str)) (B : List Addr) (H1 : Hp) (D : Addr) (Pi : Nat → List V → Hp → Prop) (i : Nat) (H : Hp) : Prop := Exb Z B H1 H ∧ ∃ acc, H D = some (.lst acc) ∧ acc.length ≤ i ∧ Pi i acc H
variable {Pi : Nat → List V → Hp → Prop} {i : Nat} {y : V}
theorem LcP.put (x1 : Exb Z B H1 H) (hD : H1 D = none) (hD2 : H D = some (.lst acc)) (nB : D ∉ B) (l : acc.length ≤ i) (hi : i < 1000000) (x : Exb Z B H H2) (p : Pi (i + 1) (acc ++ [y]) (upd H2 D (.lst (acc ++ [y])))) :
    ∃ acc, H2 D = some (.lst acc) ∧ acc.length < sizeLine ∧ LcP Z B H1 D Pi (i + 1) (upd H2 D (.lst (acc ++ [y]))) :=
  ⟨acc, x.lstb nB hD2, Nat.lt_of_le_of_lt (Nat.le_trans l (Nat.le_of_lt hi)) (by decide), (x1.trans x).mut (.inr hD) (Mb.of (x.lstb nB hD2) trivial), _, upd_same, by simp; omega, p⟩
theorem lcE {J : It} {n : Nat} {G : Hp → Prop} {Y : Nat → Hp → V → Hp → Prop} (w : Walk J n G Y) {g : TG} {tt : TT} {te : TE} {vs : List Nat} {σ : L2.St} {Qd : Hp → Prop} (hD : H1 D = none) (hG : ∀ H, Exb Z B H1 H → G H) (hn : n ≤ 1000000) (Pi : Nat → List V → Hp → Prop) (h0 : Pi 0 [] (upd H1 D (.lst [])))
    (hs : ∀ i acc x H H', i < n → Exb Z B H1 H → H D = some (.lst acc) → acc.length ≤ i → Pi i acc H → Y i H x H' → g x (wipe σ vs) H' fun σ2 H2 => wipe σ2 vs = wipe σ vs ∧ tt σ2 H2 fun b H3 =>
      if b = true then te σ2 H3 fun y H4 => ∃ acc, H4 D = some (.lst acc) ∧ acc.length < sizeLine ∧ LcP Z B H1 D Pi (i + 1) (upd H4 D (.lst (acc ++ [y]))) else LcP Z B H1 D Pi (i + 1) H3) (hd : ∀ acc H, Exb Z B H1 H → H D = some (.lst acc) → Pi n acc H → Qd H) :
    ∃ W : Nat → Nat → Hp → Prop, (∃ m, W 0 m (upd H1 D (.lst []))) ∧ ∀ i m H, W i m H →
      (J.stop i H ∧ Qd H) ∨ (J.go i H ∧ ∃ Nx : Hp → Prop, (∀ H', Nx H' → ∃ m', m' < m ∧ W (i + 1) m' H') ∧ ∀ x H', J.yld i H x H' → g x (wipe σ vs) H' fun σ2 H2 => wipe σ2 vs = wipe σ vs ∧ tt σ2 H2 fun b H3 =>
        if b = true then te σ2 H3 fun y H4 => ∃ acc, H4 D = some (.lst acc) ∧ acc.length < sizeLine ∧ Nx (upd H4 D (.lst (acc ++ [y]))) else Nx H3) :=
  lc_it w (LcP Z B H1 D Pi) ⟨Exb.new hD, [], upd_same, Nat.le_refl _, h0⟩ (fun i H _ p => hG H p.1)
    (fun i x H H' hi ⟨x1, acc, ha, hl, hp⟩ hy => hs i acc x H H' hi x1 ha hl hp hy) fun H ⟨x1, acc, ha, _, hp⟩ => hd acc H x1 ha hp
/-- the same of a dict -/
def DcP (Z : List (Addr × Str)) (B : List Addr) (H1 : Hp) (D : Addr) (Pi : Nat → List (Key × V) → Hp → Prop) (i : Nat) (H : Hp) : Prop := Exb Z B H1 H ∧ ∃ acc, H D = some (.dK acc) ∧ Pi i acc H
theorem DcP.put {Pi : Nat → List (Key × V) → Hp → Prop} {acc : List (Key × V)} {k : Key} {z : V} {i : Nat} (x1 : Exb Z B H1 H) (hD : H1 D = none) (hD2 : H D = some (.dK acc)) (nB : D ∉ B) (hl : acc.length < 1000000) (x : Exb Z B H H2) (p : Pi (i + 1) (putK acc k z) (upd H2 D (.dK (putK acc k z)))) :
    ∃ kvs k', kV k = kV k' ∧ H2 D = some (.dK kvs) ∧ kvs.length < sizeLine ∧ DcP Z B H1 D Pi (i + 1) (upd H2 D (.dK (putK kvs k' z))) :=
  ⟨acc, k, rfl, x.dkb nB hD2, Nat.lt_of_lt_of_le hl (by decide), (x1.trans x).mut (.inr hD) (Mb.of (x.dkb nB hD2) trivial), _, upd_same, p⟩
theorem dcE {J : It} {n : Nat} {G : Hp → Prop} {Y : Nat → Hp → V → Hp → Prop} (w : Walk J n G Y) {g : TG} {tt : TT} {tk tv : TE} {vs : List Nat} {σ : L2.St} {Qd : Hp → Prop} (hD : H1 D = none) (hG : ∀ H, Exb Z B H1 H → G H) (Pi : Nat → List (Key × V) → Hp → Prop) (h0 : Pi 0 [] (upd H1 D (.dK [])))
    (hs : ∀ i acc x H H', i < n → Exb Z B H1 H → H D = some (.dK acc) → Pi i acc H → Y i H x H' → g x (wipe σ vs) H' fun σ2 H2 => wipe σ2 vs = wipe σ vs ∧ tt σ2 H2 fun b H3 =>
      if b = true then tk σ2 H3 fun y H4 => tv σ2 H4 fun z H5 => ∃ kvs k, y = kV k ∧ H5 D = some (.dK kvs) ∧ kvs.length < sizeLine ∧ DcP Z B H1 D Pi (i + 1) (upd H5 D (.dK (putK kvs k z))) else DcP Z B H1 D Pi (i + 1) H3) (hd : ∀ acc H, Exb Z B H1 H → H D = some (.dK acc) → Pi n acc H → Qd H) :
    ∃ W : Nat → Nat → Hp → Prop, (∃ m, W 0 m (upd H1 D (.dK []))) ∧ ∀ i m H, W i m H →
      (J.stop i H ∧ Qd H) ∨ (J.go i H ∧ ∃ Nx : Hp → Prop, (∀ H', Nx H' → ∃ m', m' < m ∧ W (i + 1) m' H') ∧ ∀ x H', J.yld i H x H' → g x (wipe σ vs) H' fun σ2 H2 => wipe σ2 vs = wipe σ vs ∧ tt σ2 H2 fun b H3 =>
        if b = true then tk σ2 H3 fun y H4 => tv σ2 H4 fun z H5 => ∃ kvs k, y = kV k ∧ H5 D = some (.dK kvs) ∧ kvs.length < sizeLine ∧ Nx (upd H5 D (.dK (putK kvs k z))) else Nx H3) :=
  dc_it w (DcP Z B H1 D Pi) ⟨Exb.new hD, [], upd_same, h0⟩ (fun i H _ p => hG H p.1)
    (fun i x H H' hi ⟨x1, acc, ha, hp⟩ hy => hs i acc x H H' hi x1 ha hp hy) fun H ⟨x1, acc, ha, hp⟩ => hd acc H x1 ha hp
theorem ixS {p : Addr} {j : Nat} {v : V} {Q : VK} (h : SqS K H p xs) (e : xs[j]? = some v) (q : Q v H) : rIx K (.ref p) (.int (j : Nat)) H Q :=
  h.elim (fun z => .inl ⟨_, _, _, _, rfl, rfl, z, atI_nat e, q⟩) fun z => .inr (.inl ⟨_, _, _, _, rfl, rfl, z, atI_nat e, q⟩)
theorem ixT {p : Addr} {j : Nat} {v : V} {Q : VK} (h : SqT K H p xs) (e : xs[j]? = some v) (q : Q v H) : rIxT K (.ref p) (.int (j : Nat)) H Q := ⟨_, _, _, _, rfl, rfl, h, atI_nat e, q⟩
theorem ixL {p : Addr} {j : Nat} {v : V} {Q : VK} (h : SqL K H p xs) (e : xs[j]? = some v) (q : Q v H) : rIxL K (.ref p) (.int (j : Nat)) H Q := ⟨_, _, _, _, rfl, rfl, h, atI_nat e, q⟩
end
/-- a list or a tuple walked: what the walk is, and that it goes on while the thing stays -/
def iSeqW (K : PySem.W.Frag) (tl : TE) : TI := fun σ H R => tl σ H fun x H1 => ∃ a xs, x = .ref a ∧ SqS K H1 a xs ∧ ∀ J G, Walk J xs.length G (YAt xs) → (∀ Z B H', (a ∈ B → ∀ u, H1 a = some u → Mi u) → Exb Z B H1 H' → G H') → R J H1
def iEnumW (K : PySem.W.Frag) (ta : TA) : TI := fun σ H R => ta σ H fun vs H1 => ∃ a xs, vs = [.ref a] ∧ SqS K H1 a xs ∧ ∀ J G, Walk J xs.length G (YPair (fun i => some (.int (i : Nat))) (fun i => xs[i]?)) → (∀ Z B H', (a ∈ B → ∀ u, H1 a = some u → Mi u) → Exb Z B H1 H' → G H') → R J H1
section
variable {X : Cx} {tg : Expr} {pins : List (Addr × Obj)} {σ : L2.St} {H : Hp} {s : Shared}
theorem pi_seqW {l : Expr} {tl : TE} (hl : PE X l tl) : PI X tg l (iSeqW X.K tl) := by
  refine ⟨fun pins s σ H R I h => ?_⟩
  refine thn (hl.run pins s σ H _ I h) fun v s1 ⟨x, H1, I1, r1, a, xs, e, hS, q⟩ => ?_
  subst e
  cases r1
  rcases seqS hS q with ⟨hq, q⟩ | ⟨hq, q⟩
  · obtain ⟨its, rv, p, hz⟩ := I1.list hq
    refine wpAny_pyIter_list p.isList ?_
    refine ⟨s1.heap.objs.size, [s1.heap.objs.size], _, _, H1, rfl, I1.kept (t' := s1.toks) fun b o e => Heap.get?_push_of_some _ e, turn_list a _, ⟨_, Heap.get?_push_size _ rfl, rfl, rfl⟩, fun b hb => ?_, q⟩
    rw [show b = s1.heap.objs.size by simpa using hb]
    exact I1.fpOk (Nat.le_refl _) (I1.hok.fresh (Nat.le_refl _))
  · obtain ⟨its, rv, p, hz⟩ := I1.tuple hq
    refine wpAny_pyIter_tuple (show s1.heap.IsTuple a its.toArray from p) ?_
    refine ⟨s1.heap.objs.size, [s1.heap.objs.size], _, _, H1, rfl, I1.kept (t' := s1.toks) fun b o e => Heap.get?_push_of_some _ e, turn_tuple a _, ⟨_, Heap.get?_push_size _ rfl, rfl, rfl⟩, fun b hb => ?_, q⟩
    rw [show b = s1.heap.objs.size by simpa using hb]
    exact I1.fpOk (Nat.le_refl _) (I1.hok.fresh (Nat.le_refl _))
theorem pi_enumW {e : Expr} {ta : TA} {p pos tpos : Pos} {elts : List Expr} {kk : Nat} (hg : Gl X "enumerate") (hm : X.mg "enumerate" = none) (ha : PA X [e] ta) (hs : starEach [e] X.env = [(false, eval e X.env)] := by rfl) :
    PI X (.Tuple elts kk tpos) (.Call (.Name "enumerate" p) [e] [] pos) (iEnumW X.K ta) := by
  refine ⟨fun pins s σ H R I h => ?_⟩
  refine Call_ (ld_blt I hg hm boot_enumerate (PyProof.Rows.callWith_type1 (thn (ha.run pos pins s σ H _ I h) fun us s1 ⟨vs, H1, I1, r1, q1⟩ => ?_) hs rfl))
  obtain ⟨a, xs, ex, hS, q⟩ := q1
  subst ex
  obtain ⟨u, rfl, ru⟩ := Vals.one r1
  cases ru
  have fp : ∀ b ∈ [s1.heap.objs.size + 1, s1.heap.objs.size], FpOk X pins H1 b := fun b hb => by
    have hle : s1.heap.objs.size ≤ b := by
      have e' : b = s1.heap.objs.size + 1 ∨ b = s1.heap.objs.size := by simpa using hb
      rcases e' with z | z
      · rw [z]; exact Nat.le_add_right _ _
      · rw [z]; exact Nat.le_refl _
    exact I1.fpOk hle (I1.hok.fresh hle)
  rcases enumS hS q with ⟨hq, q⟩ | ⟨hq, q⟩
  · obtain ⟨its, rv, p', hz⟩ := I1.list hq
    refine call_enumerate_list p'.isList fun h' he hit hsz hk => wpAny_pyIter_enum he ?_
    exact ⟨s1.heap.objs.size + 1, [s1.heap.objs.size + 1, s1.heap.objs.size], _, _, H1, rfl, I1.kept (t' := s1.toks) hk, turn_enum a (s1.heap.objs.size + 1) s1.heap.objs.size, ⟨⟨.none, he⟩, hit, Nat.succ_ne_self _⟩, fp, q⟩
  · obtain ⟨its, rv, p', hz⟩ := I1.tuple hq
    refine enum_one (begins_tuple a its.toArray) (show s1.heap.IsTuple a its.toArray from p') fun h' he hit hk => wpAny_pyIter_enum he ?_
    exact ⟨s1.heap.objs.size + 1, [s1.heap.objs.size + 1, s1.heap.objs.size], _, _, H1, rfl, I1.kept (t' := s1.toks) hk, turn_enumU a (s1.heap.objs.size + 1) s1.heap.objs.size, ⟨⟨.none, he⟩, ⟨_, hit, rfl, rfl⟩, Nat.succ_ne_self _⟩, fp, q⟩
end
/-! ### rules with the written part by name (for the items of comprehensions) -/
section
variable {X : Cx} {K : PySem.W.Frag}
def rLenQ (K : PySem.W.Frag) : List V → Hp → VK → Prop := fun xs H Q => ∃ p ys, xs = [V.ref p] ∧ SqS K H p ys ∧ Q (V.int (ys.length : Nat)) H
theorem lenK (h : X.K = K) : CallR X (.builtin "len") (rLenQ K) := by
  subst h
  exact call_len_seq
def rTupQ (K : PySem.W.Frag) : List V → Hp → VK → Prop := fun xs H Q => ∃ p ys, xs = [V.ref p] ∧ ((SqL K H p ys ∧ ∀ l, H l = none → Q (.ref l) (upd H l (.tup ys))) ∨ (SqT K H p ys ∧ Q (.ref p) H))
theorem tupK (h : X.K = K) : CallR X (.type "tuple") (rTupQ K) := by
  subst h
  exact call_tuple_of
def rLstQ (K : PySem.W.Frag) : List V → Hp → VK → Prop := fun xs H Q => ∃ p ys, xs = [V.ref p] ∧ SqS K H p ys ∧ ∀ l, H l = none → Q (.ref l) (upd H l (.lst ys))
theorem lstK (h : X.K = K) : CallR X (.type "list") (rLstQ K) := by
  subst h
  exact call_list_of
theorem ixtK (h : X.K = K) : IxR X (rIxT K) := by
  subst h
  exact ix_tup
theorem ixlK (h : X.K = K) : IxR X (rIxL K) := by
  subst h
  exact ix_list
theorem ixsK (h : X.K = K) : IxR X (rIx K) := by
  subst h
  exact ix_seq
theorem catAK (h : X.K = K) : OpR X (binaryOp .Add) (rCatA K) := by
  subst h
  exact op_catA
def rSumS (K : PySem.W.Frag) : List V → Hp → VK → Prop := fun vs H Q => ∃ (a : Addr) (ns : List Int), vs = [V.ref a] ∧ SqS K H a (ns.map V.int) ∧ Q (.int ns.sum) H
theorem sumK (h : X.K = K) (hc : X.calm = true) : CallR X (.builtin "sum") (rSumS K) := by
  subst h
  intro pins s σ H vs us Q I r h
  obtain ⟨a, ns, rfl, hs, q⟩ := h
  rcases hs with hs | hs
  · obtain ⟨its, rv, hl, _⟩ := I.list hs
    rw [Vals.ref1 r]
    exact sum_raw (I.ok.hd hc) hl.isList rv.ints fun h' tk t' hk => ⟨.int _, H, I.kept hk, ⟨_, rfl⟩, q⟩
  · obtain ⟨its, rv, hl, _⟩ := I.tuple hs
    rw [Vals.ref1 r]
    have hi := rv.ints
    obtain ⟨xs, e⟩ := hi.allInts.items
    have hn : numsOf (intItems xs).toList = ns := by rw [← e]; exact hi.numsOf
    rw [nums_intItems] at hn
    have hl2 : s.heap.IsTuple a its.toArray := hl
    rw [e] at hl2
    refine PySem.W.ktm_sumG (I.ok.hd hc) hl2 fun h' tk t' hk => ?_
    rw [preSum_eq, List.take_of_length_le (by simp), hn]
    exact ⟨.int _, H, I.kept hk, ⟨_, rfl⟩, q⟩
theorem pi_seqK {tg l : Expr} {tl : TE} (h : X.K = K) (hl : PE X l tl) : PI X tg l (iSeqW K tl) := by
  subst h
  exact pi_seqW hl
theorem pg_tupK {es : List Expr} {k : Nat} {t : TGs} {n : Nat} {pos : Pos} (h : X.K = K) (hc : X.calm = true) (hp : PGs X es t)
    (hn : (assignEach es X.env).length = n := by rfl) (hst : (assignEach es X.env).findIdx? (·.1) = none := by rfl) : PG X (.Tuple es k pos) (gTup K n t) := by
  subst h
  exact pg_tup hc hp hn hst
end
end Fx
/-! ==== B62a ==== -/
namespace K62
open PySem PySem.Spec PyProof.Rows L2 Fx Od
section
variable {P : Program} {w : World} {K : PySem.W.Frag} {mg : Str → Option Value} {base : Heap} {C : Addr} {Z : List (Addr × Str)}
theorem kitB_int_int : kitB "int" "int" = some true := by decide +kernel
theorem kitB_int_bool : kitB "int" "bool" = some false := by decide +kernel
theorem kitB_list_list : kitB "list" "list" = some true := by decide +kernel
theorem kitB_tuple_list : kitB "tuple" "list" = some false := by decide +kernel
theorem kitB_tuple_tuple : kitB "tuple" "tuple" = some true := by decide +kernel
theorem _root_.Fx.SqS.ty {H : Hp} {a : Addr} {xs : List V} (h : SqS K H a xs) : TyX K H (.ref a) (.type "list") ∨ TyX K H (.ref a) (.type "tuple") := by
  rcases h with ((h | ⟨o, h⟩) | ⟨o, its, n, h1, h2, _⟩) | ((h | ⟨o, h⟩) | ⟨o, its, n, h1, h2, _⟩)
  · exact .inl (.base (.lst h))
  · exact .inl (.base (.frz h))
  · exact .inl (.kList h1 h2)
  · exact .inr (.base (.tup h))
  · exact .inr (.fTuple h)
  · exact .inr (.kTuple h1 h2)
/-! ### is_number, is_between, is_list, is_word, is_line -/
def spNumber : Sp := fun vs H Q _ => ∃ i : Int, vs = [.int i] ∧ Q (.bl true) H
theorem sc_is_number : FnScope ["thing"] ["thing"] (defScope s_is_number) := ⟨rfl, rfl, rfl, by decide +kernel, rfl, by decide +kernel, by decide +kernel⟩
theorem is_number_ok (T : Txt K mg C) (D : Df K mg "is_number" s_is_number []) : C8.Cal P w K mg base 1 "is_number" spNumber [] := by
  refine D.cal (k := 0) sc_is_number (by intro kV doc pm an cdv ct us h; match us, h with | [_], _ => rfl) (by rintro _ _ _ _ ⟨_, rfl, _⟩; rfl) ?_
  rintro f cdv A outer s H _ Q E hr ⟨i, rfl, hq⟩
  refine ⟨_, (pss_one (ps_ret (pe_and (pe_callB call_isi (by rfl) T.isinstance bt_isinstance (pa_cons (pv 0) (pa_cons (pe_bltn (by rfl) T.int bt_int (show RelV (.ty "int") _ from rfl)) pa_nil))) (pe_one (pe_not (pe_callB call_isi (by rfl) T.isinstance bt_isinstance (pa_cons (pv 0) (pa_cons (pe_bltn (by rfl) T.bool bt_bool (show RelV (.ty "bool") _ from rfl)) pa_nil)))))))), ?_⟩
  exact ⟨_, rfl, _, _, _, _, _, rfl, .ty _, .base (.int _), kit_ty kitB_int_int, true, rfl, _, rfl, _, _, _, _, _, rfl, .ty _, .base (.int _), kit_ty kitB_int_bool, false, rfl, hq⟩
def spBetween : Sp := fun vs H Q _ => ∃ i lo hi : Int, vs = [.int i, .int lo, .int hi] ∧ lo ≤ i ∧ i ≤ hi ∧ Q (.bl true) H
theorem sc_is_between : FnScope ["thing", "low", "high"] ["thing", "low", "high"] (defScope s_is_between) := ⟨rfl, rfl, rfl, by decide +kernel, rfl, by decide +kernel, by decide +kernel⟩
theorem is_between_ok (T : Txt K mg C) (D : Df K mg "is_between" s_is_between []) (c_is_number : C8.Cal P w K mg base 1 "is_number" spNumber []) : C8.Cal P w K mg base 2 "is_between" spBetween [] := by
  refine D.cal (k := 1) sc_is_between (by intro kV doc pm an cdv ct us h; match us, h with | [_, _, _], _ => rfl) (by rintro _ _ _ _ ⟨_, _, _, rfl, _⟩; rfl) ?_
  rintro f cdv A outer s H _ Q E hr ⟨i, lo, hi, rfl, h1, h2, hq⟩
  refine ⟨_, (pss_one (ps_ret (pe_and (C8.pe_c c_is_number hr (by decide) (by rfl) (pa_cons (pv 0) pa_nil)) (pe_one (pe_chain op_le op_le (pv 1) (pv 0) (pv 2)))))), ?_⟩
  refine ⟨_, rfl, _, rfl, true, rfl, _, rfl, _, rfl, _, _, rfl, rfl, true, ?_, _, rfl, _, _, rfl, rfl, ?_⟩
  · exact congrArg V.bl (decide_eq_true h1)
  · show Q (.bl (decide (i ≤ hi))) H
    rw [decide_eq_true h2]
    exact hq
def spList (K : PySem.W.Frag) (Z : List (Addr × Str)) : Sp := fun vs H Q _ => ∃ a xs, vs = [.ref a] ∧ SqS K H a xs ∧ ∀ H', Ex Z H H' → Q (.bl true) H'
theorem sc_is_list : FnScope ["thing"] ["thing"] (defScope s_is_list) := ⟨rfl, rfl, rfl, by decide +kernel, rfl, by decide +kernel, by decide +kernel⟩
theorem is_list_ok (T : Txt K mg C) (D : Df K mg "is_list" s_is_list []) : C8.Cal P w K mg base 1 "is_list" (spList K Z) [] := by
  refine D.cal (k := 0) sc_is_list (by intro kV doc pm an cdv ct us h; match us, h with | [_], _ => rfl) (by rintro _ _ _ _ ⟨_, _, rfl, _⟩; rfl) ?_
  rintro f cdv A outer s H _ Q E hr ⟨a, xs, rfl, hs, hq⟩
  refine ⟨_, (pss_one (ps_ret (pe_callB call_isiT (by rfl) T.isinstance bt_isinstance (pa_cons (pv 0) (pa_cons (pe_tup (pa_cons (pe_bltn (by rfl) T.list bt_list (show RelV (.ty "list") _ from rfl)) (pa_cons (pe_bltn (by rfl) T.tuple bt_tuple (show RelV (.ty "tuple") _ from rfl)) pa_nil))) pa_nil))))), ?_⟩
  refine ⟨_, rfl, by show 2 ≤ sizeLine; decide, fun p np => ?_⟩
  have x : Ex Z H (upd H p (.tup [.ty "list", .ty "tuple"])) := Ex.new np
  have pr : Paired ClsV [.ty "list", .ty "tuple"] [.type "list", .type "tuple"] := .cons (.ty _) (.cons (.ty _) .nil)
  rcases SqS.ty (x.sqS hs) with t | t
  · exact ⟨_, _, _, _, _, true, rfl, upd_same, pr, t, kitAny_cons (kit_ty kitB_list_list) (fun z => nomatch z) fun _ => rfl, hq _ x⟩
  · exact ⟨_, _, _, _, _, true, rfl, upd_same, pr, t, kitAny_cons (kit_ty kitB_tuple_list) (fun _ => kitAny_cons (kit_ty kitB_tuple_tuple) (fun z => nomatch z) fun _ => rfl) (fun z => nomatch z), hq _ x⟩
def spWord : Sp := fun vs H Q _ => ∃ i : Int, vs = [.int i] ∧ 0 ≤ i ∧ i ≤ 3 ∧ Q (.bl true) H
theorem sc_is_word : FnScope ["thing"] ["thing"] (defScope s_is_word) := ⟨rfl, rfl, rfl, by decide +kernel, rfl, by decide +kernel, by decide +kernel⟩
theorem is_word_ok (T : Txt K mg C) (D : Df K mg "is_word" s_is_word []) (c_is_between : C8.Cal P w K mg base 2 "is_between" spBetween []) : C8.Cal P w K mg base 3 "is_word" spWord [] := by
  refine D.cal (k := 2) sc_is_word (by intro kV doc pm an cdv ct us h; match us, h with | [_], _ => rfl) (by rintro _ _ _ _ ⟨_, rfl, _⟩; rfl) ?_
  rintro f cdv A outer s H _ Q E hr ⟨i, rfl, h0, h3, hq⟩
  refine ⟨_, (pss_one (ps_ret (C8.pe_c c_is_between hr (by decide) (by rfl) (pa_cons (pv 0) (pa_cons pe_int (pa_cons (C8.pe_gc (by rfl) T.c_MOST_WORD) pa_nil)))))), ?_⟩
  exact ⟨_, rfl, _, _, _, rfl, h0, h3, hq⟩
/-- one line of a watch's moves -/
def lineV (k : Nat) (f : Nat → Nat) : List V := (List.range k).map fun c => V.int (f c)
theorem lineV_len (k : Nat) (f : Nat → Nat) : (lineV k f).length = k := by simp [lineV]
theorem lineV_get {k : Nat} {f : Nat → Nat} {i : Nat} {v : V} (h : (lineV k f)[i]? = some v) : i < k ∧ v = .int (f i) := by
  unfold lineV at h
  rw [List.getElem?_map] at h
  by_cases hi : i < k
  · rw [List.getElem?_range hi] at h
    exact ⟨hi, (Option.some.inj h).symm⟩
  · rw [List.getElem?_eq_none (by simp; omega)] at h
    cases h
theorem lineV_at {k : Nat} {f : Nat → Nat} {i : Nat} (h : i < k) : (lineV k f)[i]? = some (.int (f i)) := by
  unfold lineV
  rw [List.getElem?_map, List.getElem?_range h]
  rfl
/-- is_line: kinds, places -/
def spLine (K : PySem.W.Frag) (Z : List (Addr × Str)) : Sp := fun vs H Q _ => ∃ a k n f, vs = [.ref a, .int (k : Nat), .int (n : Nat)] ∧ SqS K H a (lineV k f) ∧ (∀ c < k, f c < n) ∧ k ≤ 4 ∧ ∀ H', Ex Z H H' → Q (.bl true) H'
theorem sc_is_line : FnScope ["thing", "kinds", "places", "item"] ["thing", "kinds", "places"] (defScope s_is_line) := ⟨rfl, rfl, rfl, by decide +kernel, rfl, by decide +kernel, by decide +kernel⟩
theorem is_line_ok (T : Txt K mg C) (D : Df K mg "is_line" s_is_line []) (c_is_list : C8.Cal P w K mg base 1 "is_list" (spList K Z) []) (c_is_between : C8.Cal P w K mg base 2 "is_between" spBetween []) : C8.Cal P w K mg base 3 "is_line" (spLine K Z) [] := by
  refine D.cal (k := 2) sc_is_line (by intro kV doc pm an cdv ct us h; match us, h with | [_, _, _], _ => rfl) (by rintro _ _ _ _ ⟨_, _, _, _, rfl, _⟩; rfl) ?_
  rintro f cdv A outer s H _ Q E hr ⟨a, k, n, g, rfl, hs, hlt, hk, hq⟩
  refine ⟨_, (pss_cons (ps_if (PW.pt (pw_or (pt_not (pt_val (C8.pe_c c_is_list hr (by decide) (by rfl) (pa_cons (pv 0) pa_nil)))) (pw_or1 (pt_cmpR op_ne (pe_callB (lenK (K := K) rfl) (by rfl) T.len bt_len (pa_cons (pv 0) pa_nil)) (pv 1) (nomark _))))) (pss_one (ps_ret pe_bl)) pss_nil)
      (pss_one (ps_ret (pe_callB (cr_all rfl) (by rfl) T.all bt_all (pa_cons (pe_lc (own := [("item", 3)]) rfl sc_is_line.nd (pi_seqK (K := K) rfl (pv 0)) (blkOk_by (own := [("item", 3)]) (N := ["thing", "kinds", "places", "item"]) (sc := defScope s_is_line) (by decide +kernel)) (fun _ _ _ _ _ => (pg_name (i := 3) sc_is_line.nd rfl (by first | exact Or.inl rfl | exact Or.inr rfl))) (fun _ _ _ _ _ => pts_nil) (fun _ _ _ _ _ => (C8.pe_c c_is_between hr (by decide) (by rfl) (pa_cons (pv 3) (pa_cons pe_int (pa_cons (pe_op op_sub (pv 2) pe_int) pa_nil)))))) pa_nil))))), ?_⟩
  refine ⟨_, rfl, _, _, rfl, hs, fun H1 x1 => ?_⟩
  refine ⟨true, rfl, _, rfl, _, _, rfl, x1.sqS hs, _, rfl, rfl, false, neF (by rw [lineV_len]), ?_⟩
  refine ⟨_, rfl, _, _, rfl, x1.sqS hs, fun J G wk hG D hD => ?_⟩
  rw [lineV_len] at wk
  refine lcE (B := []) wk hD (hG Z [] · (by simp)) (by omega) (fun i acc _ => acc = List.replicate i (.bl true)) rfl (fun i acc x H2 H3 hi x2 ha hl hp hy => ?_) fun acc H2 x2 ha hp => ?_
  · obtain ⟨rfl, hx⟩ := hy
    obtain ⟨hc, rfl⟩ := lineV_get hx
    have := hlt i hc
    refine ⟨rfl, _, rfl, _, rfl, _, _, rfl, rfl, _, _, _, rfl, by omega, by omega, ?_⟩
    exact LcP.put x2 hD ha (by simp) hl (by omega) (Exb.refl _) (by rw [hp, List.replicate_succ']) 
  · refine ⟨_, List.replicate k true, rfl, ?_, ?_⟩
    · rw [List.map_replicate, ← hp]
      exact SqL.of ha
    · rw [show (List.replicate k true).all id = true by simp]
      exact hq _ (x1.trans x2)
/-! ### first_wrong, need_words -/
def spFirstWord (K : PySem.W.Frag) (Z : List (Addr × Str)) (f : Addr) : Sp := fun vs H Q _ => ∃ a n g, vs = [.ref a, .ref f] ∧ SqS K H a (lineV n g) ∧ (∀ p < n, g p ≤ 3) ∧ ∀ H', Ex Z H H' → Q .non H'
theorem sc_first_wrong : FnScope ["several", "fits", "index", "item"] ["several", "fits"] (defScope s_first_wrong) := ⟨rfl, rfl, rfl, by decide +kernel, rfl, by decide +kernel, by decide +kernel⟩
theorem first_word_ok (T : Txt K mg C) (D : Df K mg "first_wrong" s_first_wrong []) {fw : Addr} {fdw : FuncData} {psw : List Str} (Fw : FnOk P w K mg base CX0 3 fw fdw psw spWord) (kw : PySem.W.keepIn K (.ref fw) = true) (bw : Binds K fdw psw []) : C8.Cal P w K mg base 4 "first_wrong" (spFirstWord K Z fw) [] := by
  refine D.cal (k := 3) sc_first_wrong (by intro kV doc pm an cdv ct us h; match us, h with | [_, _], _ => rfl) (by rintro _ _ _ _ ⟨_, _, _, rfl, _⟩; rfl) ?_
  rintro f cdv A outer s H _ Q E hr ⟨a, n, g, rfl, hs, hlt, hq⟩
  refine ⟨_, (pss_cons (ps_for PassesOwn.never rfl (pi_enumW (by rfl) T.enumerate (pa_cons (pv 0) pa_nil)) (pg_tup rfl (pgs_cons (pg_name (i := 2) sc_first_wrong.nd rfl (by first | exact Or.inl rfl | exact Or.inr rfl)) (pgs_cons (pg_name (i := 3) sc_first_wrong.nd rfl (by first | exact Or.inl rfl | exact Or.inr rfl)) pgs_nil)))
      (pss_one (ps_if (pt_not (pt_val (pe_callL (i := 1) Fw hr rfl (.inl rfl) kw bw .nil pass0 (pa_cons (pv 3) pa_nil)))) (pss_one (ps_ret (pv 2))) pss_nil)))
      (pss_one (ps_ret pe_non))), ?_⟩
  refine ⟨_, rfl, _, _, rfl, hs, fun J G wk hG => ?_⟩
  rw [lineV_len] at wk
  refine for_it wk (fun i σ H' => ∃ u v, σ = [some (.ref a), some (.ref fw), u, v] ∧ Ex Z H H') ⟨_, _, rfl, Exb.refl _⟩ (fun i σ H' _ ⟨u, v, _, x⟩ => hG Z [] H' (by simp) x) (fun i x σ H1 H2 hi ⟨u, v, hσ, x1⟩ hy => ?_) fun σ H' ⟨u, v, _, x⟩ => hq _ x
  subst hσ
  obtain ⟨t, _, _, rfl, hn, rfl, h1, h2⟩ := hy
  obtain rfl := Option.some.inj h1
  obtain ⟨hc, rfl⟩ := lineV_get h2
  have := hlt i hc
  refine ⟨_, _, rfl, SqT.of upd_same, rfl, _, _, rfl, _, _, rfl, rfl, ?_⟩
  exact ⟨rfl, _, rfl, _, rfl, by omega, by omega, true, rfl, _, _, rfl, x1.trans (Exb.new hn)⟩
def spNeedWords (K : PySem.W.Frag) (Z : List (Addr × Str)) : Sp := fun vs H Q _ => ∃ a n g, vs = [.ref a, .int (n : Nat)] ∧ SqS K H a (lineV n g) ∧ (∀ p < n, g p ≤ 3) ∧ ∀ H', Ex Z H H' → Q .non H'
theorem sc_need_words : FnScope ["words", "many", "index"] ["words", "many"] (defScope s_need_words) := ⟨rfl, rfl, rfl, by decide +kernel, rfl, by decide +kernel, by decide +kernel⟩
theorem need_words_ok (T : Txt K mg C) (D : Df K mg "need_words" s_need_words []) (D1 : Df K mg "first_wrong" s_first_wrong []) (c_is_list : C8.Cal P w K mg base 1 "is_list" (spList K Z) []) (c_is_word : C8.Cal P w K mg base 3 "is_word" spWord []) : C8.Cal P w K mg base 5 "need_words" (spNeedWords K Z) [] := by
  obtain ⟨fw, fdw, psw, dsw, Fw, hmw, kw, bw, dw⟩ := c_is_word.ex
  cases dw
  have c_first_wrong := first_word_ok (P := P) (w := w) (base := base) (Z := Z) T D1 Fw kw bw
  have g_is_word : ∃ u, mg "is_word" = some u ∧ RelV (.ref fw) u := ⟨_, hmw, rfl⟩
  refine D.cal (k := 4) sc_need_words (by intro kV doc pm an cdv ct us h; match us, h with | [_, _], _ => rfl) (by rintro _ _ _ _ ⟨_, _, _, rfl, _⟩; rfl) ?_
  rintro f cdv A outer s H _ Q E hr ⟨a, n, g, rfl, hs, hlt, hq⟩
  refine ⟨_, (pss_cons (ps_if (PW.pt (pw_or (pt_not (pt_val (C8.pe_c c_is_list hr (by decide) (by rfl) (pa_cons (pv 0) pa_nil)))) (pw_or1 (pt_cmpR op_ne (pe_callB (lenK (K := K) rfl) (by rfl) T.len bt_len (pa_cons (pv 0) pa_nil)) (pv 1) (nomark _))))) (pss_one ps_never) pss_nil)
      (pss_cons (ps_set (i := 2) sc_need_words.nd rfl (by first | exact Or.inl rfl | exact Or.inr rfl) (C8.pe_c c_first_wrong hr (by decide) (by rfl) (pa_cons (pv 0) (pa_cons (C8.pe_gc (by rfl) g_is_word) pa_nil))))
      (pss_one (ps_if (pt_cmpR op_notN (pv 2) pe_non (nomark _)) (pss_one ps_never) pss_nil)))), ?_⟩
  refine ⟨_, rfl, _, _, rfl, hs, fun H1 x1 => ⟨true, rfl, _, rfl, _, _, rfl, x1.sqS hs, _, rfl, rfl, false, neF (by rw [lineV_len]), ?_⟩⟩
  exact ⟨_, rfl, _, _, _, rfl, x1.sqS hs, hlt, fun H2 x2 => ⟨_, rfl, rfl, false, rfl, hq _ (x1.trans x2)⟩⟩
end
end K62
/-! ==== B62b ==== -/
namespace K62
open PySem PySem.Spec PyProof.Rows L2 Fx Od
section
variable {P : Program} {w : World} {K : PySem.W.Frag} {mg : Str → Option Value} {base : Heap} {C : Addr} {Z : List (Addr × Str)}
/-! ### need_moves: a lambda handed to first_wrong -/
structure DfC (K : PySem.W.Frag) (mg : Str → Option Value) (x : Str) (st : Stmt) (c : Addr) : Prop where
  ex : ∃ f fd, FunD K x x (defArgs st) (defBody st) (defScope st) [] [] f fd ∧ fd.code = .ref c ∧ mg x = some (.ref f)
/-- the name that the lambda's code bears -/
def lamQ : Str := (envOfC "need_moves" (defScope s_need_moves) 0 0 .none).qual ++ "<lambda>"
/-- the moves of a watch: a list or tuple of lists or tuples -/
def MovesAt (K : PySem.W.Frag) (H : Hp) (a : Addr) (W : Wt) : Prop := ∃ rs : List Addr, SqS K H a (rs.map V.ref) ∧ rs.length = W.n ∧ ∀ p r, rs[p]? = some r → SqS K H r (lineV W.k (W.mv p))
theorem MovesAt.ex {H H' : Hp} {a : Addr} {W : Wt} (x : Ex Z H H') (h : MovesAt K H a W) : MovesAt K H' a W := by
  obtain ⟨rs, h1, h2, h3⟩ := h
  exact ⟨rs, x.sqS h1, h2, fun p r e => x.sqS (h3 p r e)⟩
def spNeedMoves (K : PySem.W.Frag) (Z : List (Addr × Str)) : Sp := fun vs H Q _ => ∃ a W, vs = [.ref a] ∧ MovesAt K H a W ∧ W.Ok ∧ LamX.Tabs Z H ∧ ∀ H', Ex Z H H' → Q .non H'
theorem sc_need_moves : FnScope ["moves", "first", "index"] ["moves"] (defScope s_need_moves) := ⟨rfl, rfl, rfl, by decide +kernel, rfl, by decide +kernel, by decide +kernel⟩
theorem first_gives (T : Txt K mg C) {X : Cx} (hK : X.K = K) (hm : X.mg = mg) {g : Addr} {cdg : Value} {q : Str} :
    GivesTwo X ["several", "fits", "index", "item"] "first_wrong" (defScope s_first_wrong) g cdg (defBody s_first_wrong) "fits" 1 q
      (fun tl v H Q => ∃ (a : Addr) (rs : List Addr), v = .ref a ∧ SqS K H a (rs.map V.ref) ∧ (∀ (p : Nat) (r : Addr) (H1 : Hp) (Q1 : VK), rs[p]? = some r → Ex Z H H1 → (∀ H2, Ex Z H H2 → Q1 (.bl true) H2) → tl (.ref r) H1 Q1) ∧ ∀ H', Ex Z H H' → Q .non H') := by
  subst hK hm
  rintro f c' s H v Q tl hcall hc ⟨a, rs, rfl, hs, hl, hq⟩
  refine ⟨_, (pss_cons (ps_for PassesOwn.never rfl (pi_enumW (by rfl) T.enumerate (pa_cons (pv 0) pa_nil)) (pg_tup rfl (pgs_cons (pg_name (i := 2) sc_first_wrong.nd rfl (by first | exact Or.inl rfl | exact Or.inr rfl)) (pgs_cons (pg_name (i := 3) sc_first_wrong.nd rfl (by first | exact Or.inl rfl | exact Or.inr rfl)) pgs_nil)))
      (pss_one (ps_if (pt_not (pt_val (hcall _ _ _ _ (pv 3) (by rfl)))) (pss_one (ps_ret (pv 2))) pss_nil)))
      (pss_one (ps_ret pe_non))), ?_⟩
  refine ⟨_, rfl, _, _, rfl, hs, fun J G wk hG => ?_⟩
  rw [List.length_map] at wk
  refine for_it wk (fun i σ H' => ∃ u v, σ = [some (.ref a), some (.ref f), u, v] ∧ Ex Z H H') ⟨_, _, rfl, Exb.refl _⟩ (fun i σ H' _ ⟨u, v, _, x⟩ => hG Z [] H' (by simp) x) (fun i x σ H1 H2 hi ⟨u, v, hσ, x1⟩ hy => ?_) fun σ H' ⟨u, v, _, x⟩ => hq _ x
  subst hσ
  obtain ⟨t, _, y, rfl, hn, rfl, h1, h2⟩ := hy
  obtain rfl := Option.some.inj h1
  have h2 : (rs.map V.ref)[i]? = some y := h2
  rw [List.getElem?_map, List.getElem?_eq_getElem hi] at h2
  obtain rfl := Option.some.inj h2
  have x2 := x1.trans (Exb.new (o := .tup [.int (i : Nat), .ref rs[i]]) hn)
  refine ⟨_, _, rfl, SqT.of upd_same, rfl, _, _, rfl, _, _, rfl, rfl, ?_⟩
  refine ⟨rfl, _, rfl, x2.1 _ _ (by simp) hc (fun ps z => nomatch z), hl i rs[i] _ _ (List.getElem?_eq_getElem hi) x2 fun H3 x3 => ?_⟩
  exact ⟨true, rfl, _, _, rfl, x3⟩
def rLenQ (K : PySem.W.Frag) : List V → Hp → VK → Prop := fun xs H Q => ∃ p ys, xs = [V.ref p] ∧ (SqL K H p ys ∨ SqT K H p ys) ∧ Q (V.int (ys.length : Nat)) H
theorem need_moves_ok {c Pt : Addr} (T : Txt K mg C) (D : DfC K mg "need_moves" s_need_moves c) (D1 : Df K mg "first_wrong" s_first_wrong []) (TB : LamX.TabB base mg c Pt) (hZ : Z = [(Pt, lamQ)]) (c_is_list : C8.Cal P w K mg base 1 "is_list" (spList K Z) []) (c_is_line : C8.Cal P w K mg base 3 "is_line" (spLine K Z) []) : C8.Cal P w K mg base 6 "need_moves" (spNeedMoves K Z) [] := by
  obtain ⟨f, fd, F, hcode, hmg⟩ := D.ex
  obtain ⟨g, fdg, Fg, hmg1⟩ := D1.ex
  obtain ⟨ocg, odg, dVg, kVg, docg, pmg, ang, cdvg, ctg, oslg, rfl, lkg, hcdg, hDg, _⟩ := Fg.ex
  have bb := Fg.bindsN (ps := ["several", "fits"]) (by intro kV doc pm an cdv ct us h; match us, h with | [_, _], _ => rfl)
  refine ⟨f, fd, ["moves"], [], ?_, hmg, F.kp, F.bindsN (by intro kV doc pm an cdv ct us h; match us, h with | [_], _ => rfl), .nil⟩
  have F2 := F
  obtain ⟨oc, od, dV, kV, doc, pm, an, cdv, ct, osl, rfl, lk, hcd, _, _⟩ := F2.ex
  obtain rfl : cdv = .ref c := hcode
  refine fn_of (k := 5) lk hcd sc_need_moves (by rintro _ _ _ _ ⟨_, _, rfl, _⟩; rfl) ?_
  rintro A outer s H _ Q E hr ⟨a, W, rfl, hM, ok, hT, hq⟩
  refine ⟨_, PSs.nox (pss_cons (ps_if (PW.pt (pw_or (pt_not (pt_val (C8.pe_c c_is_list hr (by decide) (by rfl) (pa_cons (pv 0) pa_nil)))) (pw_or1 (pt_not (pt_chain op_le op_le pe_int (pe_callB call_len_seq (by rfl) T.len bt_len (pa_cons (pv 0) pa_nil)) (C8.pe_gc (by rfl) T.c_MOST_PLACES)))))) (pss_one ps_never) pss_nil)
    (pss_cons (ps_set (i := 1) sc_need_moves.nd rfl (by first | exact Or.inl rfl | exact Or.inr rfl) (pe_ix ix_seq (pv 0) pe_int (fun _ _ => rfl)))
    (pss_cons (ps_if (PW.pt (pw_or (pt_not (pt_val (C8.pe_c c_is_list hr (by decide) (by rfl) (pa_cons (pv 1) pa_nil)))) (pw_or1 (pt_not (pt_chain op_le op_le pe_int (pe_callB call_len_seq (by rfl) T.len bt_len (pa_cons (pv 1) pa_nil)) (C8.pe_gc (by rfl) T.c_MOST_KINDS)))))) (pss_one ps_never) pss_nil)
    (pss_cons (ps_set (i := 2) sc_need_moves.nd rfl (by first | exact Or.inl rfl | exact Or.inr rfl) (pe_two (k := 3) (T := Z) (g := g) (c := c) (P := Pt) (i := 1) (a := "fits") (b := "several") (x := "line") (pv 0) (by rfl) hmg1 Fg.kp lkg hcdg bb sc_first_wrong rfl (.inl rfl) (first_gives (Z := Z) T rfl rfl) TB rfl (by rw [hZ]; exact List.mem_singleton_self _) (fun p hp _ => by rw [hZ] at hp; rw [List.mem_singleton.mp hp]; rfl) (hr.mono (by decide)) (oneP_by (sc := defScope s_need_moves) (by decide +kernel)) (show ("line" : Str) ∉ (["moves", "first", "index"] : List Str) by decide +kernel) rfl (by intros; rfl)
        (fun A outer s H f c' hr2 => C8.pe_c c_is_line hr2 (by decide) (by rfl) (pa_cons (pv 3) (pa_cons (pe_callB (show CallR _ _ (rLenQ K) from call_len_seq) (by rfl) T.len bt_len (pa_cons (pv 1) pa_nil)) (pa_cons (pe_callB (show CallR _ _ (rLenQ K) from call_len_seq) (by rfl) T.len bt_len (pa_cons (pv 0) pa_nil)) pa_nil))))
        rfl rfl rfl (by rfl)))
    (pss_one (ps_if (pt_cmpR op_notN (pv 2) pe_non (nomark _)) (pss_one ps_never) pss_nil)))))), ?_⟩
  obtain ⟨rs, hs, hn, hrow⟩ := hM
  have n1 := ok.n1
  have n6 := ok.n6
  have k1 := ok.k1
  have k4 := ok.k4
  refine ⟨_, rfl, _, _, rfl, hs, fun H1 x1 => ?_⟩
  have l1 : (1 : Int) ≤ ((rs.map V.ref).length : Nat) := by rw [List.length_map, hn]; omega
  have l6 : (((rs.map V.ref).length : Nat) : Int) ≤ 6 := by rw [List.length_map, hn]; omega
  refine ⟨true, rfl, _, rfl, _, _, rfl, x1.sqS hs, _, _, rfl, rfl, true, blT l1, _, _, rfl, rfl, true, blT l6, ?_⟩
  obtain ⟨r0, h0⟩ : ∃ r0, rs[0]? = some r0 := ⟨rs[0]'(by omega), List.getElem?_eq_getElem (by omega)⟩
  have hr0 := x1.sqS (hrow 0 r0 h0)
  refine ⟨_, rfl, ixS (x1.sqS hs) (j := 0) (v := .ref r0) (by rw [List.getElem?_map, h0]; rfl) ?_⟩
  refine ⟨_, rfl, _, _, rfl, hr0, fun H2 x2 => ?_⟩
  have m1 : (1 : Int) ≤ ((lineV W.k (W.mv 0)).length : Nat) := by rw [lineV_len]; omega
  have m4 : (((lineV W.k (W.mv 0)).length : Nat) : Int) ≤ 4 := by rw [lineV_len]; omega
  refine ⟨true, rfl, _, rfl, _, _, rfl, x2.sqS hr0, _, _, rfl, rfl, true, blT m1, _, _, rfl, rfl, true, blT m4, ?_⟩
  have x12 := x1.trans x2
  refine ⟨_, rfl, x12.2 hT, fun H3 e3 t3 => ?_⟩
  have x3 : Ex Z H2 H3 := ⟨fun b o _ e t => e3 b o e t, fun _ => t3⟩
  have x13 := x12.trans x3
  refine ⟨_, rs, rfl, x13.sqS hs, fun p r H4 Q4 hp x4 q4 => ?_, fun H4 x4 => ?_⟩
  · have x14 := x13.trans x4
    have hp2 : p < W.n := by
      rw [← hn]
      exact (List.getElem?_eq_some_iff.mp hp).1
    refine ⟨_, rfl, _, rfl, _, _, rfl, (x3.trans x4).sqS (x2.sqS hr0), _, rfl, _, _, rfl, x14.sqS hs, r, W.k, W.n, W.mv p, ?_, x14.sqS (hrow p r hp), fun c hc => ok.mv p hp2 c hc, k4, fun H5 x5 => q4 _ (x4.trans x5)⟩
    rw [lineV_len, List.length_map, hn]
    rfl
  · exact ⟨_, rfl, rfl, false, rfl, hq _ (x13.trans x4)⟩
end
end K62
/-! ==== B62c ==== -/
namespace K62
open PySem PySem.Spec PyProof.Rows L2 Fx Od
section
variable {P : Program} {w : World} {K : PySem.W.Frag} {mg : Str → Option Value} {base : Heap} {C : Addr} {Z : List (Addr × Str)}
/-! ### the class Watch -/
/-- no table, no code object, no tuple, nothing locked -/
def Md : HO → Prop
  | .lst _ => True
  | .dK _ => True
  | .ins _ _ _ => True
  | .own _ => True
  | _ => False
theorem Md.of {H : Hp} {p : Addr} {o : HO} (h : H p = some o) (m : Md o) : ∀ u, H p = some u → Md u := fun u e => by
  rw [h] at e
  rw [← Option.some.inj e]
  exact m
theorem SqT.put {H : Hp} {p t : Addr} {o : HO} {xs : List V} (h : SqT K H t xs) (m : ∀ u, H p = some u → Md u) : SqT K (upd H p o) t xs := by
  rcases h with (h | ⟨z, h⟩) | h
  · exact .inl (.inl (by rw [upd_ne (fun e => (m (.tup xs) (by rw [← e]; exact h) : False))]; exact h))
  · exact .inl (.inr ⟨z, by rw [upd_ne (fun e => (m (.frz z (.tup xs)) (by rw [← e]; exact h) : False))]; exact h⟩)
  · exact .inr h
theorem SqT.put' {H : Hp} {p t : Addr} {o u : HO} {xs : List V} (h : SqT K H t xs) (e : H p = some u) (m : Md u) : SqT K (upd H p o) t xs := SqT.put h (Md.of e m)
theorem Mi.of {H : Hp} {p : Addr} {o : HO} (h : H p = some o) (m : Mi o) : ∀ u, H p = some u → Mi u := fun u e => by
  rw [h] at e
  rw [← Option.some.inj e]
  exact m
theorem Mi.md {u : HO} (h : Mi u) : Md u := by
  cases u <;> first | trivial | exact h.elim
theorem SqL.putI {H : Hp} {p t : Addr} {o : HO} {xs : List V} (h : SqL K H t xs) (m : ∀ u, H p = some u → Mi u) : SqL K (upd H p o) t xs := by
  rcases h with (h | ⟨z, h⟩) | h
  · exact .inl (.inl (by rw [upd_ne (fun e => (m (.lst xs) (by rw [← e]; exact h) : False))]; exact h))
  · exact .inl (.inr ⟨z, by rw [upd_ne (fun e => (m (.frz z (.lst xs)) (by rw [← e]; exact h) : False))]; exact h⟩)
  · exact .inr h
theorem SqS.putI {H : Hp} {p t : Addr} {o : HO} {xs : List V} (h : SqS K H t xs) (m : ∀ u, H p = some u → Mi u) : SqS K (upd H p o) t xs := h.elim (fun z => .inl (SqL.putI z m)) fun z => .inr (SqT.put z fun u e => Mi.md (m u e))
/-- a watch: its moves as tuples of tuples, its words -/
def WatchAt (K : PySem.W.Frag) (C : Addr) (H : Hp) (a : Addr) (W : Wt) : Prop := ∃ (dx m wd : Addr) (rs : List Addr), H a = some (.ins C dx [("own_moves", .ref m), ("own_words", .ref wd)]) ∧ SqT K H m (rs.map V.ref) ∧ rs.length = W.n ∧ (∀ p r, rs[p]? = some r → SqT K H r (lineV W.k (W.mv p))) ∧ SqT K H wd (lineV W.n W.wd)
/-- a list or a dict -/
def Ml : HO → Prop
  | .lst _ => True
  | .dK _ => True
  | _ => False
theorem WatchAt.put {H : Hp} {p a : Addr} {W : Wt} {o : HO} (h : WatchAt K C H a W) (m : ∀ u, H p = some u → Ml u) : WatchAt K C (upd H p o) a W := by
  obtain ⟨dx, q, wd, rs, h1, h2, h3, h4, h5⟩ := h
  have md : ∀ u, H p = some u → Md u := fun u e => by
    have := m u e
    cases u <;> first | trivial | exact this.elim
  exact ⟨dx, q, wd, rs, by rw [upd_ne (fun e => (m (.ins C dx _) (by rw [← e]; exact h1) : False))]; exact h1, SqT.put h2 md, h3, fun p r e => SqT.put (h4 p r e) md, SqT.put h5 md⟩
theorem Ml.of {H : Hp} {p : Addr} {o : HO} (h : H p = some o) (m : Ml o) : ∀ u, H p = some u → Ml u := fun u e => by
  rw [h] at e
  rw [← Option.some.inj e]
  exact m
theorem WatchAt.exb {H H' : Hp} {B : List Addr} {a : Addr} {W : Wt} (x : Exb Z B H H') (hB : ∀ b ∈ B, ∀ u, H b = some u → Ml u) (h : WatchAt K C H a W) : WatchAt K C H' a W := by
  have tn : ∀ {t : Addr} {xs : List V}, SqT K H t xs → SqT K H' t xs := fun {t xs} q => by
    by_cases hb : t ∈ B
    · rcases q with (q | ⟨o, q⟩) | q
      · exact ((hB t hb _ q : Ml (.tup xs)) : False).elim
      · exact ((hB t hb _ q : Ml (.frz o (.tup xs))) : False).elim
      · exact .inr q
    · exact x.sqTb hb q
  obtain ⟨dx, m, wd, rs, h1, h2, h3, h4, h5⟩ := h
  exact ⟨dx, m, wd, rs, x.insb (fun hb => ((hB a hb _ h1 : Ml (.ins C dx _)) : False)) h1, tn h2, h3, fun p r e => tn (h4 p r e), tn h5⟩
theorem _root_.Fx.SqS.exb {H H' : Hp} {B : List Addr} {a : Addr} {xs : List V} (x : Exb Z B H H') (hB : ∀ b ∈ B, ∀ u, H b = some u → Mi u) (h : SqS K H a xs) : SqS K H' a xs := by
  by_cases hb : a ∈ B
  · rcases h with ((h | ⟨o, h⟩) | h) | ((h | ⟨o, h⟩) | h)
    · exact ((hB a hb _ h : Mi (.lst xs)) : False).elim
    · exact ((hB a hb _ h : Mi (.frz o (.lst xs))) : False).elim
    · exact .inl (.inr h)
    · exact ((hB a hb _ h : Mi (.tup xs)) : False).elim
    · exact ((hB a hb _ h : Mi (.frz o (.tup xs))) : False).elim
    · exact .inr (.inr h)
  · exact x.sqSb hb h
theorem WatchAt.ex {H H' : Hp} {a : Addr} {W : Wt} (x : Ex Z H H') (h : WatchAt K C H a W) : WatchAt K C H' a W := WatchAt.exb x (fun b hb => absurd hb (by simp)) h
/-- what was new then may change -/
theorem _root_.Fx.Exb.unb {H H1 H' : Hp} {B : List Addr} {p : Addr} (x : Exb Z B H H1) (hp : H p = none) (y : Exb Z (p :: B) H1 H') : Exb Z B H H' := ⟨fun b o n e t => y.1 b o (fun hb => by
  rcases List.mem_cons.mp hb with q | q
  · rw [q, hp] at e
    cases e
  · exact n q) (x.1 b o n e t) t, fun t => y.2 (x.2 t)⟩
/-- a property of the class -/
structure Pg (P : Program) (w : World) (K : PySem.W.Frag) (mg : Str → Option Value) (base : Heap) (k : Nat) (C : Addr) (f : Str) (sp : Sp) : Prop where
  ex : ∃ p g fd ps, PropOf K C f p g ∧ FnOk P w K mg base CX0 k g fd ps sp ∧ Binds K fd ps []
theorem pe_pg {X : Cx} {k j : Nat} {f : Str} {sp : Sp} {e : Expr} {ta : TE} {pos : PySem.Pos} (G : Pg X.prog X.w X.K X.mg X.base k C f sp) (c : Cls X.K C) (he : PE X e ta) (hr : Room j X.A) (hk : k + 1 ≤ j) (hab : attributeBase e f X.env (eval e X.env) = eval e X.env) :
    PE X (.Attribute e f pos) (tProp C sp [] E0 ta) := by
  obtain ⟨p, g, fd, ps, hp, F, b⟩ := G.ex
  exact pe_prop he c hp F (hr.mono hk) b .nil pass0 hab
abbrev s_Watch_moves : Stmt := inClass (topS 25) 1
abbrev s_Watch_words : Stmt := inClass (topS 25) 2
abbrev s_Watch_kinds : Stmt := inClass (topS 25) 3
/-- a getter by its facts -/
structure Dg (K : PySem.W.Frag) (C : Addr) (x q : Str) (st : Stmt) : Prop where
  ex : ∃ p g fd, FunD K x q (defArgs st) (defBody st) (defScope st) [] [] g fd ∧ PropOf K C x p g
def spMoves (K : PySem.W.Frag) (C : Addr) : Sp := fun vs H Q _ => ∃ a W, vs = [.ref a] ∧ WatchAt K C H a W ∧ ∀ (m : Addr) (rs : List Addr), SqT K H m (rs.map V.ref) → rs.length = W.n → (∀ p r, rs[p]? = some r → SqT K H r (lineV W.k (W.mv p))) → Q (.ref m) H
theorem sc_Watch_moves : FnScope ["self"] ["self"] (defScope s_Watch_moves) := ⟨rfl, rfl, rfl, by decide +kernel, rfl, by decide +kernel, by decide +kernel⟩
theorem Watch_moves_ok (T : Txt K mg C) (D : Dg K C "moves" "Watch.moves" s_Watch_moves) : Pg P w K mg base 1 C "moves" (spMoves K C) := by
  obtain ⟨p, g, fd, F, hp⟩ := D.ex
  refine ⟨p, g, fd, ["self"], hp, F.ok sc_Watch_moves (by rintro _ _ _ _ ⟨_, _, rfl, _⟩; rfl) (k := 0) fun cdv A outer s H vs Q E hr h => ?_, F.bindsN (by intro kV doc pm an cdv ct us h; match us, h with | [_], _ => rfl)⟩
  obtain ⟨a, W, rfl, ⟨dx, m, wd, rs, h1, h2, h3, h4, h5⟩, hq⟩ := h
  refine ⟨_, PSs.nox (pss_one (ps_ret (pe_fld (pv 0) rfl))), ?_⟩
  exact ⟨_, rfl, a, C, dx, _, _, rfl, h1, T.cl, T.noM, rfl, hq m rs h2 h3 h4⟩
def spWords (K : PySem.W.Frag) (C : Addr) : Sp := fun vs H Q _ => ∃ a W, vs = [.ref a] ∧ WatchAt K C H a W ∧ ∀ m, SqT K H m (lineV W.n W.wd) → Q (.ref m) H
theorem sc_Watch_words : FnScope ["self"] ["self"] (defScope s_Watch_words) := ⟨rfl, rfl, rfl, by decide +kernel, rfl, by decide +kernel, by decide +kernel⟩
theorem Watch_words_ok (T : Txt K mg C) (D : Dg K C "words" "Watch.words" s_Watch_words) : Pg P w K mg base 1 C "words" (spWords K C) := by
  obtain ⟨p, g, fd, F, hp⟩ := D.ex
  refine ⟨p, g, fd, ["self"], hp, F.ok sc_Watch_words (by rintro _ _ _ _ ⟨_, _, rfl, _⟩; rfl) (k := 0) fun cdv A outer s H vs Q E hr h => ?_, F.bindsN (by intro kV doc pm an cdv ct us h; match us, h with | [_], _ => rfl)⟩
  obtain ⟨a, W, rfl, ⟨dx, m, wd, rs, h1, h2, h3, h4, h5⟩, hq⟩ := h
  refine ⟨_, PSs.nox (pss_one (ps_ret (pe_fld (pv 0) rfl))), ?_⟩
  exact ⟨_, rfl, a, C, dx, _, _, rfl, h1, T.cl, T.noW, rfl, hq wd h5⟩
def spKinds (K : PySem.W.Frag) (C : Addr) : Sp := fun vs H Q _ => ∃ a W, vs = [.ref a] ∧ WatchAt K C H a W ∧ W.Ok ∧ Q (.int (W.k : Nat)) H
theorem sc_Watch_kinds : FnScope ["self"] ["self"] (defScope s_Watch_kinds) := ⟨rfl, rfl, rfl, by decide +kernel, rfl, by decide +kernel, by decide +kernel⟩
theorem Watch_kinds_ok (T : Txt K mg C) (D : Dg K C "kinds" "Watch.kinds" s_Watch_kinds) : Pg P w K mg base 1 C "kinds" (spKinds K C) := by
  obtain ⟨p, g, fd, F, hp⟩ := D.ex
  refine ⟨p, g, fd, ["self"], hp, F.ok sc_Watch_kinds (by rintro _ _ _ _ ⟨_, _, rfl, _⟩; rfl) (k := 0) fun cdv A outer s H vs Q E hr h => ?_, F.bindsN (by intro kV doc pm an cdv ct us h; match us, h with | [_], _ => rfl)⟩
  obtain ⟨a, W, rfl, ⟨dx, m, wd, rs, h1, h2, h3, h4, h5⟩, ok, hq⟩ := h
  obtain ⟨r0, h0⟩ : ∃ r0, rs[0]? = some r0 := ⟨rs[0]'(by have := ok.n1; omega), List.getElem?_eq_getElem (by have := ok.n1; omega)⟩
  refine ⟨_, PSs.nox (pss_one (ps_ret (pe_callB (lenK (K := K) rfl) (by rfl) T.len bt_len (pa_cons (pe_ix (ixtK (K := K) rfl) (pe_fld (pv 0) rfl) pe_int (fun _ _ => rfl)) pa_nil)))), ?_⟩
  refine ⟨_, rfl, a, C, dx, _, _, rfl, h1, T.cl, T.noM, rfl, ixT (j := 0) h2 (v := .ref r0) (by rw [List.getElem?_map, h0]; rfl) ?_⟩
  refine ⟨r0, _, rfl, .inr (h4 0 r0 h0), ?_⟩
  rw [lineV_len]
  exact hq
/-- Watch(moves, words) -/
structure DfI (K : PySem.W.Frag) (mg : Str → Option Value) (C : Addr) (x q : Str) (st : Stmt) : Prop where
  ex : ∃ f fd, FunD K "__init__" q (defArgs st) (defBody st) (defScope st) [] [] f fd ∧ Mk K C f ∧ mg x = some (.ref C)
def spWatch (K : PySem.W.Frag) (Z : List (Addr × Str)) (C : Addr) : Sp := fun vs H Q _ => ∃ x a b dx W, vs = [.ref x, .ref a, .ref b] ∧ H x = some (.ins C dx []) ∧ MovesAt K H a W ∧ SqS K H b (lineV W.n W.wd) ∧ W.Ok ∧ LamX.Tabs Z H ∧ ∀ H', Exb Z [x] H H' → WatchAt K C H' x W → Q .non H'
theorem sc_Watch_init : FnScope ["self", "moves", "words", "line"] ["self", "moves", "words"] (defScope s_Watch_init) := ⟨rfl, rfl, rfl, by decide +kernel, rfl, by decide +kernel, by decide +kernel⟩
theorem Watch_ok (T : Txt K mg C) (D : DfI K mg C "Watch" "Watch.__init__" s_Watch_init) (c_need_moves : C8.Cal P w K mg base 6 "need_moves" (spNeedMoves K Z) []) (c_need_words : C8.Cal P w K mg base 5 "need_words" (spNeedWords K Z) []) : C8.Mak P w K mg base 7 "Watch" C (spWatch K Z C) [] := by
  obtain ⟨f, fd, F, M, hmg⟩ := D.ex
  refine ⟨f, fd, ["self", "moves", "words"], [], M, F.ok sc_Watch_init (by rintro _ _ _ _ ⟨_, _, _, _, _, rfl, _⟩; rfl) (k := 6) fun cdv A outer s H vs Q E hr h => ?_, hmg, F.bindsN (by intro kV doc pm an cdv ct us h; match us, h with | [_, _, _], _ => rfl), .nil⟩
  obtain ⟨x, a, b, dx, W, rfl, hx, hM, hw, ok, hT, hq⟩ := h
  have n1 := ok.n1
  have n6 := ok.n6
  obtain ⟨rs, hs, hn, hrow⟩ := hM
  refine ⟨_, PSs.nox (pss_cons (ps_expr (C8.pe_c c_need_moves hr (by decide) (by rfl) (pa_cons (pv 1) pa_nil)))
      (pss_cons (ps_expr (C8.pe_c c_need_words hr (by decide) (by rfl) (pa_cons (pv 2) (pa_cons (pe_callB (lenK (K := K) rfl) (by rfl) T.len bt_len (pa_cons (pv 1) pa_nil)) pa_nil))))
      (pss_cons (ps_fld (pv 0) (pe_callTy (tupK (K := K) rfl) (by rfl) T.tuple bt_tuple (pa_cons (pe_lc (own := [("line", 3)]) rfl sc_Watch_init.nd (pi_seqK (K := K) rfl (pv 1)) (blkOk_by (own := [("line", 3)]) (N := ["self", "moves", "words", "line"]) (sc := defScope s_Watch_init) (by decide +kernel)) (fun _ _ _ _ _ => (pg_name (i := 3) sc_Watch_init.nd rfl (by first | exact Or.inl rfl | exact Or.inr rfl))) (fun _ _ _ _ _ => pts_nil) (fun _ _ _ _ _ => (pe_callTy (tupK (K := K) rfl) (by rfl) T.tuple bt_tuple (pa_cons (pv 3) pa_nil)))) pa_nil)) rfl)
      (pss_one (ps_fld (pv 0) (pe_callTy (tupK (K := K) rfl) (by rfl) T.tuple bt_tuple (pa_cons (pv 2) pa_nil)) rfl))))), ?_⟩
  refine ⟨_, rfl, a, W, rfl, ⟨rs, hs, hn, hrow⟩, ok, hT, fun H1 x1 => ?_⟩
  refine ⟨_, rfl, _, rfl, _, _, rfl, x1.sqS hs, b, W.n, W.wd, ?_, x1.sqS hw, ok.wd, fun H2 x2 => ?_⟩
  · rw [List.length_map, hn]
    rfl
  have x02 := x1.trans x2
  refine ⟨_, rfl, a, _, rfl, x02.sqS hs, fun J G wk hG D hD => ?_⟩
  rw [List.length_map] at wk
  refine lcE (B := []) (Z := Z) wk hD (hG Z [] · (by simp)) (by omega) (fun i acc H => ∃ ts : List Addr, acc = ts.map V.ref ∧ ts.length = i ∧ ∀ j t, ts[j]? = some t → SqT K H t (lineV W.k (W.mv j))) ⟨[], rfl, rfl, fun j t e => by simp at e⟩ (fun i acc y H3 H4 hi x3 ha hl hp hy => ?_) fun acc H3 x3 ha hp => ?_
  · obtain ⟨rfl, hy⟩ := hy
    obtain ⟨ts, rfl, hts, hti⟩ := hp
    rw [List.getElem?_map, List.getElem?_eq_getElem hi] at hy
    obtain rfl := Option.some.inj hy
    have hrow4 := (x02.trans x3).sqS (hrow i rs[i] (List.getElem?_eq_getElem hi))
    have fin : ∀ (H5 : Hp) (t : Addr), Ex Z H4 H5 → SqT K H5 t (lineV W.k (W.mv i)) → ∃ acc, H5 D = some (.lst acc) ∧ acc.length < sizeLine ∧ LcP Z [] H2 D (fun i acc H => ∃ ts : List Addr, acc = ts.map V.ref ∧ ts.length = i ∧ ∀ j t, ts[j]? = some t → SqT K H t (lineV W.k (W.mv j))) (i + 1) (upd H5 D (.lst (acc ++ [.ref t]))) := fun H5 t x5 ht => by
      refine LcP.put x3 hD ha (by simp) hl (by omega) x5 ⟨ts ++ [t], by simp, by simp [hts], fun j u e => SqT.put' ?_ (x5.lst ha) trivial⟩
      by_cases hj : j < ts.length
      · rw [List.getElem?_append_left hj] at e
        exact x5.sqT (hti j u e)
      · rw [List.getElem?_append_right (by omega)] at e
        have j0 : j = i := by
          have := (List.getElem?_eq_some_iff.mp e).1
          simp at this
          omega
        rw [j0, hts, Nat.sub_self] at e
        rw [j0, ← Option.some.inj e]
        exact ht
    rcases hrow4 with hL | hU
    · exact ⟨rfl, _, rfl, _, _, rfl, .inl ⟨hL, fun l nl => fin _ l (Exb.new nl) (SqT.of upd_same)⟩⟩
    · exact ⟨rfl, _, rfl, _, _, rfl, .inr ⟨hU, fin _ _ (Exb.refl _) hU⟩⟩
  · obtain ⟨ts, rfl, hts, hti⟩ := hp
    refine ⟨D, _, rfl, .inl ⟨SqL.of ha, fun m nm => ?_⟩⟩
    have x4 : Ex Z H (upd H3 m (.tup (ts.map V.ref))) := (x02.trans x3).trans (Exb.new nm)
    refine ⟨_, rfl, x, C, dx, [], rfl, x4.ins hx, T.cl, T.noM, by decide, ?_⟩
    have hx5 : ∀ H' : Hp, H' x = some (.ins C dx [("own_moves", .ref m)]) → ∀ u, H' x = some u → Md u := fun H' e => Md.of e trivial
    have ux : ∀ u, upd H3 m (.tup (ts.map V.ref)) x = some u → Md u := Md.of (x4.ins hx) trivial
    have y5 : Exb Z [x] H (upd (upd H3 m (.tup (ts.map V.ref))) x (.ins C dx [("own_moves", .ref m)])) := x4.any.mut (.inl (by simp)) (Mb.of (x4.ins hx) trivial)
    have hxb : SqS K (upd (upd H3 m (.tup (ts.map V.ref))) x (.ins C dx [("own_moves", .ref m)])) b (lineV W.n W.wd) := SqS.putI (x4.sqS hw) (Mi.of (x4.ins hx) trivial)
    have m5 : SqT K (upd (upd H3 m (.tup (ts.map V.ref))) x (.ins C dx [("own_moves", .ref m)])) m (ts.map V.ref) := SqT.put (SqT.of upd_same) ux
    have t5 : ∀ j t, ts[j]? = some t → SqT K (upd (upd H3 m (.tup (ts.map V.ref))) x (.ins C dx [("own_moves", .ref m)])) t (lineV W.k (W.mv j)) := fun j t e => SqT.put ((Ex.new nm (Z := Z)).sqT (hti j t e)) ux
    have fin : ∀ (H6 : Hp) (wd : Addr), Ex Z (upd (upd H3 m (.tup (ts.map V.ref))) x (.ins C dx [("own_moves", .ref m)])) H6 → SqT K H6 wd (lineV W.n W.wd) → Q .non (upd H6 x (.ins C dx [("own_moves", .ref m), ("own_words", .ref wd)])) := fun H6 wd x6 hwd => by
      have e6 : H6 x = some (.ins C dx [("own_moves", .ref m)]) := x6.ins upd_same
      exact hq _ ((y5.trans x6.any).mut (.inl (by simp)) (Mb.of e6 trivial)) ⟨dx, m, wd, ts, upd_same, SqT.put (x6.sqT m5) (hx5 _ e6), hts.trans hn, fun p r e => SqT.put (x6.sqT (t5 p r e)) (hx5 _ e6), SqT.put hwd (hx5 _ e6)⟩
    rcases hxb with hL | hU
    · refine ⟨_, rfl, b, _, rfl, .inl ⟨hL, fun l nl => ?_⟩⟩
      refine ⟨_, rfl, x, C, dx, _, rfl, (Ex.new nl (Z := Z)).ins upd_same, T.cl, T.noW, by show 1 < 1000; decide, ?_⟩
      exact fin _ l (Ex.new nl) (SqT.of upd_same)
    · refine ⟨_, rfl, b, _, rfl, .inr ⟨hU, ?_⟩⟩
      refine ⟨_, rfl, x, C, dx, _, rfl, upd_same, T.cl, T.noW, by show 1 < 1000; decide, ?_⟩
      exact fin _ b (Exb.refl _) hU
end
end K62
/-! ==== B62d ==== -/
namespace K62
open PySem PySem.Spec PyProof.Rows L2 Fx Od
section
variable {P : Program} {w : World} {K : PySem.W.Frag} {mg : Str → Option Value} {base : Heap} {C : Addr} {Z : List (Addr × Str)}
/-! ### need_watch, need_shown, need_weights -/
def spNeedWatch (C : Addr) : Sp := fun vs H Q _ => ∃ a dx fs, vs = [.ref a, .non] ∧ H a = some (.ins C dx fs) ∧ Q .non H
theorem sc_need_watch : FnScope ["watch", "part"] ["watch", "part"] (defScope s_need_watch) := ⟨rfl, rfl, rfl, by decide +kernel, rfl, by decide +kernel, by decide +kernel⟩
theorem need_watch_ok (T : Txt K mg C) (D : Df K mg "need_watch" s_need_watch [.non]) : C8.Cal P w K mg base 1 "need_watch" (spNeedWatch C) [.non] := by
  obtain ⟨f, fd, F, hm⟩ := D.ex
  obtain ⟨ds, hv, hb⟩ := F.binds1 (ps := ["watch", "part"]) 1 0 (by simp) rfl (fun U kV doc pm an cdv ct us its h1 h2 => by
    match us, its, h1, h2 with
    | [u], [t], _, _ => exact ⟨_, rfl, rfl⟩)
  refine ⟨f, fd, ["watch", "part"], ds, F.ok sc_need_watch (by rintro _ _ _ _ ⟨_, _, _, rfl, _⟩; rfl) (k := 0) fun cdv A outer s H vs Q E hr h => ?_, hm, F.kp, hb, hv⟩
  obtain ⟨a, dx, fs, rfl, ha, hq⟩ := h
  refine ⟨_, PSs.nox (pss_one (ps_if (pt_not (pt_val (pe_callB (C8.call_isC T.ins) (by rfl) T.isinstance bt_isinstance (pa_cons (pv 0) (pa_cons (C8.pe_gc (by rfl) T.g_Watch) pa_nil))))) (pss_one ps_never) pss_nil)), ?_⟩
  exact ⟨_, rfl, a, dx, fs, rfl, ha, true, rfl, hq⟩
/-- a shown row -/
def itemV : Option Nat → V
  | none => .non
  | some c => .int (c : Nat)
def rowV (s : Od.Row) : List V := s.map itemV
theorem rowV_len (s : Od.Row) : (rowV s).length = s.length := by simp [rowV]
theorem rowV_get {s : Od.Row} {i : Nat} {v : V} (h : (rowV s)[i]? = some v) : ∃ c, s[i]? = some c ∧ v = itemV c := by
  unfold rowV at h
  rw [List.getElem?_map] at h
  cases e : s[i]? with
  | none =>
    rw [e] at h
    cases h
  | some c =>
    rw [e] at h
    exact ⟨c, rfl, (Option.some.inj h).symm⟩
def spNeedShown (K : PySem.W.Frag) (Z : List (Addr × Str)) (C : Addr) : Sp := fun vs H Q _ => ∃ a b W s, vs = [.ref a, .ref b] ∧ WatchAt K C H a W ∧ W.Ok ∧ SqS K H b (rowV s) ∧ s.length ≤ 300 ∧ Od.Row.Ok W.k s ∧ ∀ H', Ex Z H H' → Q .non H'
theorem sc_need_shown : FnScope ["watch", "shown", "index", "item"] ["watch", "shown"] (defScope s_need_shown) := ⟨rfl, rfl, rfl, by decide +kernel, rfl, by decide +kernel, by decide +kernel⟩
theorem need_shown_ok (T : Txt K mg C) (D : Df K mg "need_shown" s_need_shown []) (p_kinds : Pg P w K mg base 1 C "kinds" (spKinds K C)) (c_is_list : C8.Cal P w K mg base 1 "is_list" (spList K Z) []) (c_is_between : C8.Cal P w K mg base 2 "is_between" spBetween []) : C8.Cal P w K mg base 3 "need_shown" (spNeedShown K Z C) [] := by
  refine D.cal (k := 2) sc_need_shown (by intro kV doc pm an cdv ct us h; match us, h with | [_, _], _ => rfl) (by rintro _ _ _ _ ⟨_, _, _, _, rfl, _⟩; rfl) ?_
  rintro f cdv A outer s H _ Q E hr ⟨a, b, W, r, rfl, hW, ok, hs, hl, hok, hq⟩
  have k1 := ok.k1
  refine ⟨_, (pss_cons (ps_if (PW.pt (pw_or (pt_not (pt_val (C8.pe_c c_is_list hr (by decide) (by rfl) (pa_cons (pv 1) pa_nil)))) (pw_or1 (pt_cmpR op_gt (pe_callB (lenK (K := K) rfl) (by rfl) T.len bt_len (pa_cons (pv 1) pa_nil)) (C8.pe_gc (by rfl) T.c_MOST_EVENTS) (nomark _))))) (pss_one ps_never) pss_nil)
      (pss_one (ps_for PassesOwn.never rfl (pi_enumW (by rfl) T.enumerate (pa_cons (pv 1) pa_nil)) (pg_tupK (K := K) (n := 2) rfl rfl (pgs_cons (pg_name (i := 2) sc_need_shown.nd rfl (by first | exact Or.inl rfl | exact Or.inr rfl)) (pgs_cons (pg_name (i := 3) sc_need_shown.nd rfl (by first | exact Or.inl rfl | exact Or.inr rfl)) pgs_nil)))
      (pss_one (ps_if (PW.pt (pw_and (pt_cmpR op_notN (pv 3) pe_non (nomark _)) (pw_and1 (pt_not (pt_val (C8.pe_c c_is_between hr (by decide) (by rfl) (pa_cons (pv 3) (pa_cons pe_int (pa_cons (pe_op op_sub (pe_pg p_kinds T.cl (pv 0) hr (by decide) rfl) pe_int) pa_nil))))))))) (pss_one ps_never) pss_nil))))), ?_⟩
  refine ⟨_, rfl, _, _, rfl, hs, fun H1 x1 => ⟨true, rfl, _, rfl, _, _, rfl, x1.sqS hs, _, _, rfl, rfl, false, blF (by rw [rowV_len]; omega), ?_⟩⟩
  refine ⟨_, rfl, _, _, rfl, x1.sqS hs, fun J G wk hG => ?_⟩
  rw [rowV_len] at wk
  refine for_it wk (fun i σ H' => ∃ u v, σ = [some (.ref a), some (.ref b), u, v] ∧ Ex Z H1 H') ⟨_, _, rfl, Exb.refl _⟩ (fun i σ H' _ ⟨u, v, _, x⟩ => hG Z [] H' (by simp) x) (fun i x σ H2 H3 hi ⟨u, v, hσ, x2⟩ hy => ?_) fun σ H' ⟨u, v, _, x⟩ => hq _ (x1.trans x)
  subst hσ
  obtain ⟨t, _, _, rfl, hn, rfl, h1, h2⟩ := hy
  obtain rfl := Option.some.inj h1
  obtain ⟨c, hc, rfl⟩ := rowV_get h2
  refine ⟨_, _, rfl, SqT.of upd_same, rfl, _, _, rfl, _, _, rfl, rfl, ?_⟩
  have x3 := x2.trans (Exb.new hn (o := .tup [.int (i : Nat), itemV c]))
  cases c with
  | none => exact ⟨_, rfl, rfl, false, rfl, _, _, rfl, x3⟩
  | some c =>
    have hck : c < W.k := hok c (List.mem_of_getElem? hc)
    have hdx := hW
    obtain ⟨dx, m, wd, rs, e1, _⟩ := hdx
    refine ⟨_, rfl, rfl, true, rfl, ?_⟩
    refine ⟨_, rfl, _, rfl, _, _, _, rfl, (x1.trans x3).ins e1, _, W, rfl, hW.ex (x1.trans x3), ok, _, _, rfl, rfl, _, _, _, rfl, by omega, by omega, ?_⟩
    exact ⟨true, rfl, _, _, rfl, x3⟩
def spNeedWeights (K : PySem.W.Frag) (Z : List (Addr × Str)) (C : Addr) : Sp := fun vs H Q _ => ∃ a b W ws, vs = [.ref a, .ref b] ∧ WatchAt K C H a W ∧ W.Ok ∧ SqS K H b (lineV W.k ws) ∧ (∀ c < W.k, 1 ≤ ws c ∧ ws c ≤ 1000000) ∧ ∀ H', Ex Z H H' → Q .non H'
theorem sc_need_weights : FnScope ["watch", "weights", "index", "weight"] ["watch", "weights"] (defScope s_need_weights) := ⟨rfl, rfl, rfl, by decide +kernel, rfl, by decide +kernel, by decide +kernel⟩
theorem need_weights_ok (T : Txt K mg C) (D : Df K mg "need_weights" s_need_weights []) (p_kinds : Pg P w K mg base 1 C "kinds" (spKinds K C)) (c_is_list : C8.Cal P w K mg base 1 "is_list" (spList K Z) []) (c_is_between : C8.Cal P w K mg base 2 "is_between" spBetween []) : C8.Cal P w K mg base 3 "need_weights" (spNeedWeights K Z C) [] := by
  refine D.cal (k := 2) sc_need_weights (by intro kV doc pm an cdv ct us h; match us, h with | [_, _], _ => rfl) (by rintro _ _ _ _ ⟨_, _, _, _, rfl, _⟩; rfl) ?_
  rintro f cdv A outer s H _ Q E hr ⟨a, b, W, ws, rfl, hW, ok, hs, hws, hq⟩
  have k4 := ok.k4
  have hdx := hW
  obtain ⟨dx, m, wd, rs, e1, _⟩ := hdx
  refine ⟨_, (pss_cons (ps_if (PW.pt (pw_or (pt_not (pt_val (C8.pe_c c_is_list hr (by decide) (by rfl) (pa_cons (pv 1) pa_nil)))) (pw_or1 (pt_cmpR op_ne (pe_callB (lenK (K := K) rfl) (by rfl) T.len bt_len (pa_cons (pv 1) pa_nil)) (pe_pg p_kinds T.cl (pv 0) hr (by decide) rfl) (nomark _))))) (pss_one ps_never) pss_nil)
      (pss_one (ps_for PassesOwn.never rfl (pi_enumW (by rfl) T.enumerate (pa_cons (pv 1) pa_nil)) (pg_tupK (K := K) (n := 2) rfl rfl (pgs_cons (pg_name (i := 2) sc_need_weights.nd rfl (by first | exact Or.inl rfl | exact Or.inr rfl)) (pgs_cons (pg_name (i := 3) sc_need_weights.nd rfl (by first | exact Or.inl rfl | exact Or.inr rfl)) pgs_nil)))
      (pss_one (ps_if (pt_not (pt_val (C8.pe_c c_is_between hr (by decide) (by rfl) (pa_cons (pv 3) (pa_cons pe_int (pa_cons (C8.pe_gc (by rfl) T.c_MOST_PRICE) pa_nil)))))) (pss_one ps_never) pss_nil))))), ?_⟩
  refine ⟨_, rfl, _, _, rfl, hs, fun H1 x1 => ⟨true, rfl, _, rfl, _, _, rfl, x1.sqS hs, _, rfl, _, _, _, rfl, x1.ins e1, _, W, rfl, hW.ex x1, ok, rfl, false, neF (by rw [lineV_len]), ?_⟩⟩
  refine ⟨_, rfl, _, _, rfl, x1.sqS hs, fun J G wk hG => ?_⟩
  rw [lineV_len] at wk
  refine for_it wk (fun i σ H' => ∃ u v, σ = [some (.ref a), some (.ref b), u, v] ∧ Ex Z H1 H') ⟨_, _, rfl, Exb.refl _⟩ (fun i σ H' _ ⟨u, v, _, x⟩ => hG Z [] H' (by simp) x) (fun i x σ H2 H3 hi ⟨u, v, hσ, x2⟩ hy => ?_) fun σ H' ⟨u, v, _, x⟩ => hq _ (x1.trans x)
  subst hσ
  obtain ⟨t, _, _, rfl, hn, rfl, h1, h2⟩ := hy
  obtain rfl := Option.some.inj h1
  obtain ⟨hc, rfl⟩ := lineV_get h2
  have := hws i hc
  refine ⟨_, _, rfl, SqT.of upd_same, rfl, _, _, rfl, _, _, rfl, rfl, ?_⟩
  have x3 := x2.trans (Exb.new hn (o := .tup [.int (i : Nat), .int (ws i : Nat)]))
  exact ⟨_, rfl, _, _, _, rfl, by omega, by omega, true, rfl, _, _, rfl, x3⟩
/-! ### divisor, power, fraction_of -/
def spDivisor : Sp := fun vs H Q _ => ∃ a b : Nat, vs = [.int (a : Nat), .int (b : Nat)] ∧ Q (.int (Nat.gcd a b : Nat)) H
theorem sc_divisor : FnScope ["one", "other"] ["one", "other"] (defScope s_divisor) := ⟨rfl, rfl, rfl, by decide +kernel, rfl, by decide +kernel, by decide +kernel⟩
theorem divisor_ok (D : Df K mg "divisor" s_divisor []) : C8.Cal P w K mg base 1 "divisor" spDivisor [] := by
  refine D.cal (k := 0) sc_divisor (by intro kV doc pm an cdv ct us h; match us, h with | [_, _], _ => rfl) (by rintro _ _ _ _ ⟨_, _, rfl, _⟩; rfl) ?_
  rintro f cdv A outer s H _ Q E hr ⟨a, b, rfl, hq⟩
  refine ⟨_, (pss_cons (ps_while PassesOwn.never (pt_cmpR op_ne (pv 1) pe_int (nomark _)) (pss_one (ps_par rfl sc_divisor.nd (i := 0) (j := 1) rfl rfl (by decide) rfl rfl (pa_cons (pv 1) (pa_cons (pe_op op_mod (pv 0) (pv 1)) pa_nil)) (by rfl))))
      (pss_one (ps_ret (pv 0)))), ?_⟩
  refine while_by (fun σ H' => H' = H ∧ ∃ x y : Nat, σ = [some (.int (x : Nat)), some (.int (y : Nat))] ∧ Nat.gcd x y = Nat.gcd a b) (fun σ _ => match σ with | [_, some (.int y)] => y.toNat | _ => 0) ⟨rfl, a, b, rfl, rfl⟩ ?_ ?_
  · rintro σ H' ⟨rfl, x, y, rfl, hg⟩
    by_cases hy : y = 0
    · subst hy
      refine ⟨_, rfl, rfl, false, rfl, ?_⟩
      refine ⟨_, rfl, ?_⟩
      rw [Nat.gcd_zero_right] at hg
      rw [← hg] at hq
      exact hq
    · refine ⟨_, rfl, rfl, true, neT (by intro z; cases z; exact hy rfl), ?_⟩
      refine ⟨_, rfl, _, rfl, _, rfl, _, _, rfl, rfl, by omega, _, _, rfl, ⟨rfl, y, x % y, rfl, ?_⟩, ?_⟩
      · rw [← hg, Nat.gcd_comm x y, Nat.gcd_rec y x, Nat.gcd_comm]
      · show ((x : Int) % (y : Int)).toNat < (y : Int).toNat
        have := Nat.mod_lt x (Nat.pos_of_ne_zero hy)
        omega
  · rintro σ H Q Q' h ⟨v, e, hs, k, hk, q⟩
    exact ⟨v, e, hs, k, hk, h _ _ q⟩
def spPower : Sp := fun vs H Q _ => ∃ b t : Nat, vs = [.int (b : Nat), .int (t : Nat)] ∧ b < 2 ^ 22 ∧ t ≤ 300 ∧ Q (.int (b ^ t : Nat)) H
theorem sc_power : FnScope ["base", "times", "found", "lap"] ["base", "times"] (defScope s_power) := ⟨rfl, rfl, rfl, by decide +kernel, rfl, by decide +kernel, by decide +kernel⟩
theorem pow_lt {b t : Nat} (hb : b < 2 ^ 22) (ht : t ≤ 300) : b ^ t < 2 ^ 6601 := by
  have h1 : b ^ t ≤ (2 ^ 22) ^ t := Nat.pow_le_pow_left (Nat.le_of_lt hb) t
  have h2 : ((2 : Nat) ^ 22) ^ t ≤ 2 ^ 6600 := by
    rw [← Nat.pow_mul]
    exact Nat.pow_le_pow_right (by decide) (by omega)
  have h3 : (2 : Nat) ^ 6600 < 2 ^ 6601 := Nat.pow_lt_pow_right (by decide) (by decide)
  omega
theorem power_ok (T : Txt K mg C) (D : Df K mg "power" s_power []) : C8.Cal P w K mg base 1 "power" spPower [] := by
  refine D.cal (k := 0) sc_power (by intro kV doc pm an cdv ct us h; match us, h with | [_, _], _ => rfl) (by rintro _ _ _ _ ⟨_, _, rfl, _⟩; rfl) ?_
  rintro f cdv A outer s H _ Q E hr ⟨b, t, rfl, hb, ht, hq⟩
  refine ⟨_, (pss_cons (ps_set (i := 2) sc_power.nd rfl (by first | exact Or.inl rfl | exact Or.inr rfl) pe_int)
      (pss_cons (ps_for PassesOwn.never rfl (pi_range1 (by rfl) T.range (pa_cons (pv 1) pa_nil)) (pg_name (i := 3) sc_power.nd rfl (by first | exact Or.inl rfl | exact Or.inr rfl))
      (pss_one (ps_set (i := 2) sc_power.nd rfl (by first | exact Or.inl rfl | exact Or.inr rfl) (pe_op op_mulW (pv 2) (pv 0)))))
      (pss_one (ps_ret (pv 2))))), ?_⟩
  refine ⟨_, rfl, (t : Nat), rfl, by omega, by omega, for_range (lo := 0) (n := t) (fun i σ H' => H' = H ∧ ∃ u, σ = [some (.int (b : Nat)), some (.int (t : Nat)), some (.int (b ^ i : Nat)), u]) ⟨rfl, _, rfl⟩ (fun i σ H' hi ⟨hH, u, hσ⟩ => ?_) fun σ H' ⟨hH, u, hσ⟩ => ?_⟩
  · subst hH hσ
    refine ⟨_, rfl, _, rfl, _, _, rfl, rfl, wide_mul (a := 6601) (b := 22) ?_ ?_ (by decide) (by decide) (by decide), rfl, some (.int (0 + (i : Nat))), ?_⟩
    · rw [Int.natAbs_natCast]
      exact pow_lt hb (by omega)
    · rw [Int.natAbs_natCast]
      exact hb
    · show _ = [_, _, some (V.int ((b ^ (i + 1) : Nat) : Int)), _]
      rw [Nat.pow_succ, Int.natCast_mul]
      rfl
  · subst hH hσ
    exact ⟨_, rfl, hq⟩
def FracAt (H : Hp) (p : Addr) (f : Nat × Nat) : Prop := H p = some (.tup [.int (f.1 : Nat), .int (f.2 : Nat)])
def spFraction (Z : List (Addr × Str)) : Sp := fun vs H Q _ => ∃ a b : Nat, vs = [.int (a : Nat), .int (b : Nat)] ∧ 0 < b ∧ b < 2 ^ 9000 ∧ ∀ p H', Ex Z H H' → FracAt H' p (frac a b) → Q (.ref p) H'
theorem sc_fraction_of : FnScope ["top", "bottom", "common"] ["top", "bottom"] (defScope s_fraction_of) := ⟨rfl, rfl, rfl, by decide +kernel, rfl, by decide +kernel, by decide +kernel⟩
theorem fraction_of_ok (D : Df K mg "fraction_of" s_fraction_of []) (c_divisor : C8.Cal P w K mg base 1 "divisor" spDivisor []) : C8.Cal P w K mg base 2 "fraction_of" (spFraction Z) [] := by
  refine D.cal (k := 1) sc_fraction_of (by intro kV doc pm an cdv ct us h; match us, h with | [_, _], _ => rfl) (by rintro _ _ _ _ ⟨_, _, rfl, _⟩; rfl) ?_
  rintro f cdv A outer s H _ Q E hr ⟨a, b, rfl, hb, hb2, hq⟩
  refine ⟨_, (pss_cons (ps_set (i := 2) sc_fraction_of.nd rfl (by first | exact Or.inl rfl | exact Or.inr rfl) (C8.pe_c c_divisor hr (by decide) (by rfl) (pa_cons (pv 0) (pa_cons (pv 1) pa_nil))))
      (pss_one (ps_ret (pe_tup (pa_cons (pe_op op_fdivW (pv 0) (pv 2)) (pa_cons (pe_op op_fdivW (pv 1) (pv 2)) pa_nil)))))), ?_⟩
  have g0 : 0 < Nat.gcd a b := Nat.gcd_pos_of_pos_right _ hb
  have g1 : Nat.gcd a b ≤ b := Nat.le_of_dvd hb (Nat.gcd_dvd_right a b)
  have wd : CDivW (a : Int) ((Nat.gcd a b : Nat) : Int) := wide_div (b := 9000) (by omega) (by rw [Int.natAbs_natCast]; exact Nat.lt_of_le_of_lt g1 hb2) (by decide) (by decide)
  have wd2 : CDivW (b : Int) ((Nat.gcd a b : Nat) : Int) := wd
  refine ⟨_, rfl, _, rfl, a, b, rfl, _, rfl, _, rfl, _, _, rfl, rfl, wd, _, rfl, _, rfl, _, _, rfl, rfl, wd2, by show 2 ≤ sizeLine; decide, fun p np => hq p _ (Ex.new np) upd_same⟩
end
end K62
/-! ==== B62e ==== -/
namespace K62
open PySem PySem.Spec PyProof.Rows L2 Fx Od
section
variable {P : Program} {w : World} {K : PySem.W.Frag} {mg : Str → Option Value} {base : Heap} {C : Addr} {Z : List (Addr × Str)}
/-! ### dicts of numbers -/
def kvD (d : Dc) : List (Key × V) := d.map fun e => (Sum.inl (e.1 : Int), V.int (e.2 : Nat))
theorem kvD_len (d : Dc) : (kvD d).length = d.length := by simp [kvD]
theorem kvD_get (k : Nat) : ∀ d : Dc, valV (kvD d) (Sum.inl (k : Int)) = (get d k).map fun n => V.int (n : Nat)
  | [] => rfl
  | e :: r => by
    by_cases h : e.1 = k
    · rw [get_pos h]
      show valV ((Sum.inl (e.1 : Int), V.int (e.2 : Nat)) :: kvD r) _ = _
      rw [valV_pos (by rw [h])]
      rfl
    · rw [get_neg h, ← kvD_get k r]
      show valV ((Sum.inl (e.1 : Int), V.int (e.2 : Nat)) :: kvD r) _ = _
      unfold valV
      rw [List.find?_cons, show decide ((Sum.inl (e.1 : Int) : Key) = Sum.inl (k : Int)) = false from decide_eq_false fun z => h (by have := Sum.inl.inj z; omega)]
theorem kvD_any (k : Nat) (d : Dc) : ((kvD d).any fun kv => decide (kv.1 = Sum.inl (k : Int))) = d.any fun e => decide (e.1 = k) := by
  unfold kvD
  rw [List.any_map]
  congr 1
  funext e
  show decide ((Sum.inl (e.1 : Int) : Key) = Sum.inl (k : Int)) = decide (e.1 = k)
  by_cases h : e.1 = k
  · rw [decide_eq_true h, h]
    exact decide_eq_true rfl
  · rw [decide_eq_false h]
    exact decide_eq_false fun z => h (by have := Sum.inl.inj z; omega)
theorem kvD_put (d : Dc) (k v : Nat) : putK (kvD d) (Sum.inl (k : Int)) (V.int (v : Nat)) = kvD (put d k v) := by
  unfold putK put
  rw [kvD_any]
  split
  · unfold kvD
    rw [List.map_map, List.map_map]
    apply List.map_congr_left
    intro e _
    show (if (Sum.inl (e.1 : Int) : Key) = Sum.inl (k : Int) then _ else _) = _
    by_cases h : e.1 = k
    · rw [if_pos (by rw [h])]
      show _ = ((fun e : Nat × Nat => ((Sum.inl (e.1 : Int) : Key), V.int (e.2 : Nat))) (if e.1 = k then (e.1, v) else e))
      rw [if_pos h]
    · rw [if_neg (fun z => h (by have := Sum.inl.inj z; omega))]
      show _ = ((fun e : Nat × Nat => ((Sum.inl (e.1 : Int) : Key), V.int (e.2 : Nat))) (if e.1 = k then (e.1, v) else e))
      rw [if_neg h]
  · unfold kvD
    rw [List.map_append]
    rfl
theorem nodup_len : ∀ (n : Nat) (l : List Nat), l.Nodup → (∀ x ∈ l, x < n) → l.length ≤ n
  | 0, l, _, h => by
    cases l with
    | nil => exact Nat.le_refl _
    | cons a r => exact absurd (h a List.mem_cons_self) (by omega)
  | n + 1, l, nd, h => by
    by_cases hn : n ∈ l
    · have h1 := nodup_len n (l.erase n) (nd.erase n) fun x hx => by
        have := (List.Nodup.mem_erase_iff nd).mp hx
        have := h x this.2
        omega
      rw [List.length_erase_of_mem hn] at h1
      omega
    · have := nodup_len n l nd fun x hx => by
        have h1 := h x hx
        have h2 : x ≠ n := fun z => hn (z ▸ hx)
        omega
      omega
theorem good_len {n : Nat} {d : Dc} (g : Good n d) : d.length ≤ n := by
  have := nodup_len n (d.map fun e : Nat × Nat => e.1) g.nd fun x hx => by
    obtain ⟨e, he, rfl⟩ := List.mem_map.mp hx
    exact g.lt e he
  rw [List.length_map] at this
  exact this
theorem foldl_take {α β : Type} (f : β → α → β) (b : β) (l : List α) {i : Nat} {x : α} (h : l[i]? = some x) : (l.take (i + 1)).foldl f b = f ((l.take i).foldl f b) x := by
  have hi := (List.getElem?_eq_some_iff.mp h)
  obtain ⟨h1, h2⟩ := hi
  rw [List.take_add_one, h, List.foldl_append]
  rfl
theorem kvD_getD (d : Dc) (k : Nat) : (valV (kvD d) (Sum.inl (k : Int))).getD (.int 0) = .int (((get d k).getD 0 : Nat) : Int) := by
  rw [kvD_get]
  cases get d k <;> rfl
/-! ### heavier_by -/
/-- list(range(watch.kinds)) if item is None else [item] -/
theorem kinds_run {σ : L2.St} {H : Hp} {Q : VK} {a : Addr} {W : Wt} {item : Option Nat} {i j : Nat} (hi : σ[i]? = some (some (.ref a))) (hj : σ[j]? = some (some (itemV item))) (hW : WatchAt K C H a W) (ok : W.Ok)
    (q : ∀ l H', Ex Z H H' → H l = none → H' l = some (.lst ((kindsOf W.k item).map fun c => V.int (c : Nat))) → Q (.ref l) H') :
    tIf (tTest (tOp (fun x y H Q => y = V.non ∧ Q (V.bl (decide (x = V.non))) H) (tVar j) (tC V.non))) (tLstRg (tRg1 (tProp C (spKinds K C) [] E0 (tVar i)))) (tLst (tCons (tVar j) tNil)) σ H Q := by
  have k4 := ok.k4
  cases item with
  | none =>
    obtain ⟨dx, m, wd, rs, e1, _⟩ := id hW
    refine ⟨_, hj, rfl, true, rfl, ?_⟩
    refine ⟨_, hi, a, dx, _, rfl, e1, a, W, rfl, hW, ok, _, rfl, RgOk.of_le (by omega) (by omega) (by omega) (by omega), fun l nl => q l _ (Ex.new nl) nl ?_⟩
    rw [upd_same]
    unfold rgV kindsOf
    rw [show ((W.k : Int) - 0).toNat = W.k by omega]
    simp
  | some c =>
    refine ⟨_, hj, rfl, false, rfl, ?_⟩
    exact ⟨_, hj, by show 1 ≤ sizeLine; decide, fun l nl => q l _ (Ex.new nl) nl upd_same⟩
theorem kinds_get {k : Nat} {item : Option Nat} {i : Nat} {v : V} (h : ((kindsOf k item).map fun c => V.int (c : Nat))[i]? = some v) : ∃ c, (kindsOf k item)[i]? = some c ∧ v = .int (c : Nat) := by
  rw [List.getElem?_map] at h
  cases e : (kindsOf k item)[i]? with
  | none =>
    rw [e] at h
    cases h
  | some c =>
    rw [e] at h
    exact ⟨c, rfl, (Option.some.inj h).symm⟩
def DkAt (H : Hp) (p : Addr) (d : Dc) : Prop := H p = some (.dK (kvD d))
def spHeavier (K : PySem.W.Frag) (Z : List (Addr × Str)) (C : Addr) : Sp := fun vs H Q _ => ∃ a fd item b W ws found, vs = [.ref a, .ref fd, itemV item, .ref b] ∧ WatchAt K C H a W ∧ W.Ok ∧ DkAt H fd found ∧ Good W.n found ∧ (∀ e ∈ found, e.2 < 2 ^ 9000) ∧
  (∀ c, item = some c → c < W.k) ∧ SqS K H b (lineV W.k ws) ∧ (∀ c < W.k, 1 ≤ ws c ∧ ws c ≤ 1000000) ∧ ∀ p H', Ex Z H H' → H p = none → DkAt H' p (heavier W ws found item) → Q (.ref p) H'
theorem sc_heavier_by : FnScope ["watch", "found", "item", "weights", "behind", "place", "many", "kind", "goal"] ["watch", "found", "item", "weights"] (defScope s_heavier_by) := ⟨rfl, rfl, rfl, by decide +kernel, rfl, by decide +kernel, by decide +kernel⟩
theorem heavier_ok (T : Txt K mg C) (D : Df K mg "heavier_by" s_heavier_by []) (p_kinds : Pg P w K mg base 1 C "kinds" (spKinds K C)) (p_moves : Pg P w K mg base 1 C "moves" (spMoves K C)) : C8.Cal P w K mg base 3 "heavier_by" (spHeavier K Z C) [] := by
  refine D.cal (k := 2) sc_heavier_by (by intro kV doc pm an cdv ct us h; match us, h with | [_, _, _, _], _ => rfl) (by rintro _ _ _ _ ⟨_, _, _, _, _, _, _, rfl, _⟩; rfl) ?_
  rintro f cdv A outer s H _ Q E hr ⟨a, fd, item, b, W, ws, found, rfl, hW, ok, hf, hg, hbig, hi, hw, hws, hq⟩
  have hu := hu_of hr
  refine ⟨_, (pss_cons (ps_set (i := 4) sc_heavier_by.nd rfl (by first | exact Or.inl rfl | exact Or.inr rfl) pe_dnewK)
      (pss_cons (ps_lock (ps_for PassesOwn.never rfl (pi_items (pv 1)) (pg_tupK (K := K) (n := 2) rfl rfl (pgs_cons (pg_name (i := 5) sc_heavier_by.nd rfl (by first | exact Or.inl rfl | exact Or.inr rfl)) (pgs_cons (pg_name (i := 6) sc_heavier_by.nd rfl (by first | exact Or.inl rfl | exact Or.inr rfl)) pgs_nil)))
      (pss_one (ps_for PassesOwn.never rfl (pi_seqK (K := K) rfl (pe_ifExp (pt_cmpR op_isN (pv 2) pe_non (nomark _)) (pe_listRg rfl (by rfl) T.list (prg_1 (by rfl) T.range (pe_pg p_kinds T.cl (pv 0) hr (by decide) rfl))) (pe_lst (pa_cons (pv 2) pa_nil)))) (pg_name (i := 7) sc_heavier_by.nd rfl (by first | exact Or.inl rfl | exact Or.inr rfl))
      (pss_cons (ps_set (i := 8) sc_heavier_by.nd rfl (by first | exact Or.inl rfl | exact Or.inr rfl) (pe_ix (ixtK (K := K) rfl) (pe_ix (ixtK (K := K) rfl) (pe_pg p_moves T.cl (pv 0) hr (by decide) rfl) (pv 5) (fun _ _ => rfl)) (pv 7) (fun _ _ => rfl)))
      (pss_one (ps_dput hu (pv 4) (pv 8) (pe_op op_add (pe_dget2 hu (pv 4) (pv 8) pe_int ⟨rfl, rfl, rfl, rfl⟩) (pe_op op_mulW (pv 6) (pe_ifExp (pt_cmpR op_isN (pv 2) pe_non (nomark _)) (pe_ix (ixsK (K := K) rfl) (pv 3) (pv 7) (fun _ _ => rfl)) pe_int))) rfl)))))))
      (pss_one (ps_ret (pv 4))))), ?_⟩
  refine fun d nd => ?_
  have x1 : Ex Z H (upd H d (.dK [])) := Ex.new nd
  have ef : upd H d (.dK []) fd = some (.dK (kvD found)) := x1.dk hf
  refine ⟨fd, _, ef, trivial, fun od => ?_⟩
  refine ⟨_, rfl, fd, od, kvD found, rfl, upd_same, ?_⟩
  have nfd : fd ≠ d := fun z => by
    rw [z] at hf
    rw [show H d = _ from hf] at nd
    cases nd
  generalize eH1 : upd (upd H d (.dK [])) fd (.frz od (.dK (kvD found))) = H1
  have hW1 : WatchAt K C H1 a W := by
    rw [← eH1]
    exact WatchAt.put (hW.ex x1) (Ml.of ef trivial)
  have hw1 : SqS K H1 b (lineV W.k ws) := by
    rw [← eH1]
    exact SqS.putI (x1.sqS hw) (Mi.of ef trivial)
  have f1 : H1 fd = some (.frz od (.dK (kvD found))) := by
    rw [← eH1]
    exact upd_same
  have d1 : H1 d = some (.dK []) := by
    rw [← eH1, upd_ne nfd.symm]
    exact upd_same
  have dB : ∀ b ∈ [d], ∀ u, H1 b = some u → Ml u := fun b hb u e => Ml.of d1 trivial u (by rw [← List.mem_singleton.mp hb]; exact e)
  have dB2 : ∀ b ∈ [d], ∀ u, H1 b = some u → Mi u := fun b hb u e => Mi.of d1 trivial u (by rw [← List.mem_singleton.mp hb]; exact e)
  refine for_it (n := (kvD found).length) walk_items (fun i σ H' => ∃ u5 u6 u7 u8, σ = [some (.ref a), some (.ref fd), some (itemV item), some (.ref b), some (.ref d), u5, u6, u7, u8] ∧ Exb Z [d] H1 H' ∧ DkAt H' d ((found.take i).foldl (fun acc e => heavier1 W ws item e acc) [])) ⟨_, _, _, _, rfl, Exb.refl _, d1⟩
    (fun i σ H' _ ⟨_, _, _, _, _, x, _⟩ => x.frzb (fun z => nfd (List.mem_singleton.mp z)) f1) (fun i x σ H2 H3 hlt ⟨u5, u6, u7, u8, hσ, x2, hd2⟩ hy => ?_) fun σ H2 ⟨u5, u6, u7, u8, hσ, x2, hd2⟩ => ?_
  · subst hσ
    obtain ⟨t, y1, y2, rfl, nt, rfl, hy1, hy2⟩ := hy
    rw [kvD_len] at hlt
    obtain ⟨e, he⟩ : ∃ e, found[i]? = some e := ⟨found[i], List.getElem?_eq_getElem hlt⟩
    have hem := List.mem_of_getElem? he
    have hkv : (kvD found)[i]? = some (Sum.inl (e.1 : Int), V.int (e.2 : Nat)) := by
      unfold kvD
      rw [List.getElem?_map, he]
      rfl
    have hy1 : ((kvD found)[i]?).map (fun kv => kV kv.1) = some y1 := hy1
    have hy2 : ((kvD found)[i]?).map Prod.snd = some y2 := hy2
    rw [hkv] at hy1 hy2
    obtain rfl := Option.some.inj hy1
    obtain rfl := Option.some.inj hy2
    refine ⟨_, _, rfl, SqT.of upd_same, rfl, _, _, rfl, _, _, rfl, rfl, ?_⟩
    have x3 : Exb Z [d] H1 (upd H2 t (.tup [kV (Sum.inl (e.1 : Int)), V.int (e.2 : Nat)])) := x2.trans (Exb.new nt)
    have d3 : DkAt (upd H2 t (.tup [kV (Sum.inl (e.1 : Int)), V.int (e.2 : Nat)])) d ((found.take i).foldl (fun acc e => heavier1 W ws item e acc) []) := (Ex.new nt (Z := Z)).dk hd2
    generalize upd H2 t (.tup [kV (Sum.inl (e.1 : Int)), V.int (e.2 : Nat)]) = H3 at x3 d3
    refine kinds_run (Z := Z) rfl rfl (hW1.exb x3 dB) ok fun l H4 x4 nl hl => ?_
    refine ⟨l, _, rfl, .inl (SqL.of hl), fun J G wk hG => ?_⟩
    rw [List.length_map] at wk
    have d4 := x4.dk d3
    have x14 := x3.trans x4.any
    have nld : l ≠ d := fun z => by
      rw [← z, hl] at d4
      cases d4
    refine for_it wk (fun j σ H' => ∃ u7 u8, σ = [some (.ref a), some (.ref fd), some (itemV item), some (.ref b), some (.ref d), some (.int (e.1 : Int)), some (.int (e.2 : Nat)), u7, u8] ∧ Exb Z [d] H4 H' ∧ DkAt H' d (((kindsOf W.k item).take j).foldl (fun acc c => bump acc (W.mv e.1 c) (e.2 * wOf ws item c)) ((found.take i).foldl (fun acc e => heavier1 W ws item e acc) []))) ⟨_, _, rfl, Exb.refl _, d4⟩
      (fun j σ H' _ ⟨_, _, _, x, _⟩ => hG Z [d] H' (fun z => absurd (List.mem_singleton.mp z) nld) x) (fun j x σ H5 H6 hj ⟨u7, u8, hσ, x5, hd5⟩ hy => ?_) fun σ H5 ⟨u7, u8, hσ, x5, hd5⟩ => ?_
    · subst hσ
      obtain ⟨rfl, hx⟩ := hy
      obtain ⟨c, hc, rfl⟩ := kinds_get hx
      have hck := kindsOf_lt hi c (List.mem_of_getElem? hc)
      have hep := hg.lt e hem
      have x15 := x14.trans x5
      have hW5 := hW1.exb x15 dB
      obtain ⟨dx, _, _, _, e1, _⟩ := id hW5
      refine ⟨_, rfl, a, dx, _, rfl, e1, a, W, rfl, hW5, fun m rs h2 h3 h4 => ?_⟩
      obtain ⟨r, hr0⟩ : ∃ r, rs[e.1]? = some r := ⟨rs[e.1]'(by omega), List.getElem?_eq_getElem (by omega)⟩
      refine ⟨_, rfl, ixT h2 (v := .ref r) (by rw [List.getElem?_map, hr0]; rfl) ?_⟩
      refine ⟨_, rfl, ixT (h4 _ _ hr0) (lineV_at hck) ?_⟩
      refine ⟨_, rfl, d, rfl, .inl ⟨_, .inl hd5⟩, _, rfl, _, DGet.k (k := Sum.inl (W.mv e.1 c : Int)) hd5, _, rfl, ?_⟩
      have gacc : Good W.n (((kindsOf W.k item).take j).foldl (fun acc c => bump acc (W.mv e.1 c) (e.2 * wOf ws item c)) ((found.take i).foldl (fun acc e => heavier1 W ws item e acc) [])) :=
        fold_bump_good _ _ _ _ (fun c hc => ⟨ok.mv _ hep _ (kindsOf_lt hi c (List.mem_of_mem_take hc)), Nat.mul_pos (hg.ps e hem) (wOf_pos (fun c h => (hws c h).1) hi c (List.mem_of_mem_take hc))⟩)
          (heavier_good_from ok (fun c h => (hws c h).1) hi _ [] (fun x hx => ⟨hg.lt x (List.mem_of_mem_take hx), hg.ps x (List.mem_of_mem_take hx)⟩) (good_nil _))
      have hlen := good_len gacc
      have n6 := ok.n6
      have fin : ∀ v : Nat, v = wOf ws item c → v ≤ 1000000 → ∃ i' j', V.int (e.2 : Nat) = .int i' ∧ V.int (v : Nat) = .int j' ∧ CMulW i' j' ∧ i' * j' = ((e.2 * wOf ws item c : Nat) : Int) := fun v hv hv6 => by
        refine ⟨_, _, rfl, rfl, wide_mul (a := 9000) (b := 20) ?_ ?_ (by decide) (by decide) (by decide), ?_⟩
        · rw [Int.natAbs_natCast]
          exact hbig e hem
        · rw [Int.natAbs_natCast]
          omega
        · rw [← hv, Int.natCast_mul]
      have last : DkAt (upd H6 d (.dK (putK (kvD (((kindsOf W.k item).take j).foldl (fun acc c => bump acc (W.mv e.1 c) (e.2 * wOf ws item c)) ((found.take i).foldl (fun acc e => heavier1 W ws item e acc) []))) (Sum.inl (W.mv e.1 c : Int))
          (.int (((get (((kindsOf W.k item).take j).foldl (fun acc c => bump acc (W.mv e.1 c) (e.2 * wOf ws item c)) ((found.take i).foldl (fun acc e => heavier1 W ws item e acc) [])) (W.mv e.1 c)).getD 0 : Nat) + ((e.2 * wOf ws item c : Nat) : Int)))))) d (((kindsOf W.k item).take (j + 1)).foldl (fun acc c => bump acc (W.mv e.1 c) (e.2 * wOf ws item c)) ((found.take i).foldl (fun acc e => heavier1 W ws item e acc) [])) := by
        rw [foldl_take _ _ _ hc, ← Int.natCast_add, kvD_put]
        exact upd_same
      cases item with
      | none =>
        refine ⟨_, rfl, rfl, true, rfl, _, rfl, _, rfl, ixS (hw1.exb x15 dB2) (lineV_at hck) ?_⟩
        obtain ⟨i', j', e1, e2, hm, he⟩ := fin (ws c) rfl (hws c hck).2
        refine ⟨i', j', e1, e2, hm, _, _, kvD_getD _ _, rfl, _, rfl, _, rfl, d, _, rfl, DPut.k (k := Sum.inl (W.mv e.1 c : Int)) hd5 (by rw [kvD_len]; exact Nat.lt_of_le_of_lt hlen (Nat.lt_of_le_of_lt n6 (by decide))), _, _, rfl, ?_, ?_⟩
        · exact x5.mut (.inl (by simp)) (Mb.of hd5 trivial)
        · rw [he]
          exact last
      | some c' =>
        refine ⟨_, rfl, rfl, false, rfl, ?_⟩
        obtain ⟨i', j', e1, e2, hm, he⟩ := fin 1 rfl (by decide)
        refine ⟨i', j', e1, e2, hm, _, _, kvD_getD _ _, rfl, _, rfl, _, rfl, d, _, rfl, DPut.k (k := Sum.inl (W.mv e.1 c : Int)) hd5 (by rw [kvD_len]; exact Nat.lt_of_le_of_lt hlen (Nat.lt_of_le_of_lt n6 (by decide))), _, _, rfl, ?_, ?_⟩
        · exact x5.mut (.inl (by simp)) (Mb.of hd5 trivial)
        · rw [he]
          exact last
    · subst hσ
      refine ⟨_, _, _, _, rfl, x14.trans x5, ?_⟩
      rw [foldl_take _ _ _ he]
      rw [List.take_of_length_le (Nat.le_refl _)] at hd5
      exact hd5
  · subst hσ
    rw [kvD_len, List.take_of_length_le (Nat.le_refl _)] at hd2
    have ff := x2.frzb (fun z => nfd (List.mem_singleton.mp z)) f1
    refine ⟨ff, _, rfl, hq d _ (Exb.unb x1 nd (Exb.locked trivial ef (by rw [eH1]; exact x2) ff)) nd ?_⟩
    show upd H2 fd _ d = _
    rw [upd_ne nfd.symm]
    exact hd2
end
end K62
/-! ==== B62f ==== -/
namespace K62
open PySem PySem.Spec PyProof.Rows L2 Fx Od
section
variable {P : Program} {w : World} {K : PySem.W.Frag} {mg : Str → Option Value} {base : Heap} {C : Addr} {Z : List (Addr × Str)}
theorem lineV_ints (k : Nat) (f : Nat → Nat) : lineV k f = ((List.range k).map fun c => ((f c : Nat) : Int)).map V.int := by simp [lineV]
theorem sum_cast : ∀ l : List Nat, (l.map fun c => ((c : Nat) : Int)).sum = ((l.sum : Nat) : Int)
  | [] => rfl
  | a :: r => by
    rw [List.map_cons, List.sum_cons, List.sum_cons, sum_cast r, Int.natCast_add]
theorem sumTo_cast (k : Nat) (f : Nat → Nat) : ((List.range k).map fun c => ((f c : Nat) : Int)).sum = ((Od.sumTo f k : Nat) : Int) := by
  unfold Od.sumTo
  rw [← sum_cast, List.map_map]
  rfl
theorem sumQ {H : Hp} {b : Addr} {k : Nat} {f : Nat → Nat} {Q : VK} (h : SqS K H b (lineV k f)) (q : Q (.int (Od.sumTo f k : Nat)) H) : rSumS K [.ref b] H Q := ⟨b, _, rfl, by rw [← lineV_ints]; exact h, by rw [sumTo_cast]; exact q⟩
/-- the weights -/
def WsAt (K : PySem.W.Frag) (H : Hp) (b : Addr) (k : Nat) (ws : Nat → Nat) : Prop := SqS K H b (lineV k ws) ∧ ∀ c < k, 1 ≤ ws c ∧ ws c ≤ 1000000
theorem WsAt.ex {H H' : Hp} {b : Addr} {k : Nat} {ws : Nat → Nat} (x : Ex Z H H') (h : WsAt K H b k ws) : WsAt K H' b k ws := ⟨x.sqS h.1, h.2⟩
/-- a shown row of this watch -/
def RowAt (K : PySem.W.Frag) (H : Hp) (b : Addr) (W : Wt) (s : Od.Row) : Prop := SqS K H b (rowV s) ∧ s.length ≤ 300 ∧ Od.Row.Ok W.k s
theorem RowAt.ex {H H' : Hp} {b : Addr} {W : Wt} {s : Od.Row} (x : Ex Z H H') (h : RowAt K H b W s) : RowAt K H' b W s := ⟨x.sqS h.1, h.2⟩
theorem sumTo_lt {W : Wt} (ok : W.Ok) {ws : Nat → Nat} (h : ∀ c < W.k, 1 ≤ ws c ∧ ws c ≤ 1000000) : Od.sumTo ws W.k < 2 ^ 22 := by
  have h1 := sumTo_le (k := W.k) fun c hc => (h c hc).2
  have h2 := ok.k4
  have h3 : W.k * 1000000 ≤ 4 * 1000000 := Nat.mul_le_mul_right _ h2
  have : (2 : Nat) ^ 22 = 4194304 := by decide
  omega
theorem whole_lt {W : Wt} (ok : W.Ok) {ws : Nat → Nat} (h : ∀ c < W.k, 1 ≤ ws c ∧ ws c ≤ 1000000) {s : Od.Row} (hs : s.length ≤ 300) : whole ws W.k s < 2 ^ 6601 := pow_lt (sumTo_lt ok h) (Nat.le_trans (unk_le s) hs)
theorem lt9000 {n : Nat} (h : n < 2 ^ 6601) : n < 2 ^ 9000 := Nat.lt_of_lt_of_le h (Nat.pow_le_pow_right (by decide) (by decide))
/-! ### numbers_by -/
def spNumbers (K : PySem.W.Frag) (Z : List (Addr × Str)) (C : Addr) : Sp := fun vs H Q _ => ∃ a s b W r ws, vs = [.ref a, .ref s, .ref b] ∧ WatchAt K C H a W ∧ W.Ok ∧ RowAt K H s W r ∧ WsAt K H b W.k ws ∧
  ∀ p fd H', Ex Z H H' → H' p = some (.tup [.ref fd, .int (whole ws W.k r : Nat)]) → DkAt H' fd (numbers W ws r) → Q (.ref p) H'
theorem sc_numbers_by : FnScope ["watch", "shown", "weights", "found", "item"] ["watch", "shown", "weights"] (defScope s_numbers_by) := ⟨rfl, rfl, rfl, by decide +kernel, rfl, by decide +kernel, by decide +kernel⟩
theorem numbers_ok (T : Txt K mg C) (D : Df K mg "numbers_by" s_numbers_by []) (c_heavier_by : C8.Cal P w K mg base 3 "heavier_by" (spHeavier K Z C) []) (c_power : C8.Cal P w K mg base 1 "power" spPower []) : C8.Cal P w K mg base 4 "numbers_by" (spNumbers K Z C) [] := by
  refine D.cal (k := 3) sc_numbers_by (by intro kV doc pm an cdv ct us h; match us, h with | [_, _, _], _ => rfl) (by rintro _ _ _ _ ⟨_, _, _, _, _, _, rfl, _⟩; rfl) ?_
  rintro f cdv A outer s H _ Q E hr ⟨a, sa, b, W, r, ws, rfl, hW, ok, hR, hw, hq⟩
  have hws := hw.2
  refine ⟨_, (pss_cons (ps_set (i := 3) sc_numbers_by.nd rfl (by first | exact Or.inl rfl | exact Or.inr rfl) (pe_disp (pps_cons pe_int pe_int pps_nil) (by rfl) (by rfl) (fun z => by cases z) (by decide)))
      (pss_cons (ps_for PassesOwn.never rfl (pi_seqK (K := K) rfl (pv 1)) (pg_name (i := 4) sc_numbers_by.nd rfl (by first | exact Or.inl rfl | exact Or.inr rfl))
      (pss_one (ps_set (i := 3) sc_numbers_by.nd rfl (by first | exact Or.inl rfl | exact Or.inr rfl) (C8.pe_c c_heavier_by hr (by decide) (by rfl) (pa_cons (pv 0) (pa_cons (pv 3) (pa_cons (pv 4) (pa_cons (pv 2) pa_nil))))))))
      (pss_one (ps_ret (pe_tup (pa_cons (pv 3) (pa_cons (C8.pe_c c_power hr (by decide) (by rfl) (pa_cons (pe_callB (sumK (K := K) rfl rfl) (by rfl) T.sum bt_sum (pa_cons (pv 2) pa_nil)) (pa_cons (pe_callB (lenK (K := K) rfl) (by rfl) T.len bt_len (pa_cons (pe_lc (own := [("item", 4)]) rfl sc_numbers_by.nd (pi_seqK (K := K) rfl (pv 1)) (blkOk_by (own := [("item", 4)]) (N := ["watch", "shown", "weights", "found", "item"]) (sc := defScope s_numbers_by) (by decide +kernel)) (fun _ _ _ _ _ => (pg_name (i := 4) sc_numbers_by.nd rfl (by first | exact Or.inl rfl | exact Or.inr rfl))) (fun _ _ _ _ _ => pts_one (pt_cmpR op_isN (pv 4) pe_non (nomark _))) (fun _ _ _ _ _ => (pv 4))) pa_nil)) pa_nil))) pa_nil))))))), ?_⟩
  refine fun d nd => ⟨upd_same, [(Sum.inl 0, .int 1)], rfl, by decide, ?_⟩
  have x1 : Ex Z H (upd (upd H d (.dK [])) d (.dK (mergeK [] [(Sum.inl 0, .int 1)]))) := (Ex.new nd).mut (.inr nd) (Mb.of upd_same trivial)
  have d1 : DkAt (upd (upd H d (.dK [])) d (.dK (mergeK [] [(Sum.inl 0, .int 1)]))) d [(0, 1)] := upd_same
  generalize upd (upd H d (.dK [])) d (.dK (mergeK [] [(Sum.inl 0, .int 1)])) = H1 at x1 d1
  refine ⟨_, rfl, _, _, rfl, x1.sqS hR.1, fun J G wk hG => ?_⟩
  rw [rowV_len] at wk
  refine for_it wk (fun i σ H' => ∃ fd u4, σ = [some (.ref a), some (.ref sa), some (.ref b), some (.ref fd), u4] ∧ Ex Z H1 H' ∧ DkAt H' fd (numbers W ws (r.take i))) ⟨d, _, rfl, Exb.refl _, d1⟩ (fun i σ H' _ ⟨_, _, _, x, _⟩ => hG Z [] H' (by simp) x)
    (fun i x σ H2 H3 hi ⟨fd, u4, hσ, x2, hd2⟩ hy => ?_) fun σ H2 ⟨fd, u4, hσ, x2, hd2⟩ => ?_
  · subst hσ
    obtain ⟨rfl, hx⟩ := hy
    obtain ⟨c, hc, rfl⟩ := rowV_get hx
    have x12 := x1.trans x2
    refine ⟨_, rfl, _, rfl, _, rfl, _, rfl, ?_⟩
    refine ⟨a, fd, c, b, W, ws, _, rfl, hW.ex x12, ok, hd2, numbers_good ok (fun c h => (hws c h).1) (fun c hc => hR.2.2 c (List.mem_of_mem_take hc)), fun e he => ?_, fun c' e => hR.2.2 c' (by rw [← e]; exact List.mem_of_getElem? hc), x12.sqS hw.1, hws, fun p H4 x4 np hp => ?_⟩
    · exact lt9000 (Nat.lt_of_le_of_lt (numbers_le he) (whole_lt ok hws (by rw [List.length_take]; have := hR.2.1; omega)))
    · refine ⟨p, _, rfl, x2.trans x4, ?_⟩
      rw [numbers_take r hc]
      exact hp
  · subst hσ
    rw [List.take_of_length_le (Nat.le_refl _)] at hd2
    have x12 := x1.trans x2
    refine ⟨_, rfl, _, rfl, b, (List.range W.k).map fun c => ((ws c : Nat) : Int), rfl, by rw [← lineV_ints]; exact x12.sqS hw.1, ?_⟩
    rw [sumTo_cast]
    refine ⟨_, rfl, sa, _, rfl, x12.sqS hR.1, fun J G wk hG D hD => ?_⟩
    rw [rowV_len] at wk
    refine lcE (B := []) (Z := Z) wk hD (hG Z [] · (by simp)) (by have := hR.2.1; omega) (fun i acc _ => acc = ((r.take i).filter fun x => x.isNone).map itemV) (by simp) (fun i acc x H3 H4 hi x3 ha hl hp hy => ?_) fun acc H3 x3 ha hp => ?_
    · obtain ⟨rfl, hx⟩ := hy
      obtain ⟨c, hc, rfl⟩ := rowV_get hx
      have hr : i < 1000000 := by have := hR.2.1; omega
      cases c with
      | none =>
        refine ⟨rfl, _, rfl, rfl, true, rfl, _, rfl, LcP.put x3 hD ha (by simp) hl hr (Exb.refl _) ?_⟩
        rw [List.take_add_one, hc, hp]
        simp [itemV]
      | some c =>
        refine ⟨rfl, _, rfl, rfl, false, rfl, x3, acc, ha, by omega, ?_⟩
        show acc = ((r.take (i + 1)).filter fun x => x.isNone).map itemV
        rw [List.take_add_one, hc, hp]
        simp
    · rw [List.take_of_length_le (Nat.le_refl _)] at hp
      have hlen : acc.length = unk r := by
        rw [hp, List.length_map]
        rfl
      refine ⟨D, _, rfl, .inl (SqL.of ha), _, unk r, by rw [hlen]; rfl, sumTo_lt ok hws, Nat.le_trans (unk_le r) hR.2.1, by show 2 ≤ sizeLine; decide, fun p np => ?_⟩
      exact hq p fd _ ((x12.trans x3).trans (Exb.new np)) upd_same ((x3.trans (Exb.new np)).dk hd2)
end
end K62
/-! ==== B62g ==== -/
namespace K62
open PySem PySem.Spec PyProof.Rows L2 Fx Od
section
variable {P : Program} {w : World} {K : PySem.W.Frag} {mg : Str → Option Value} {base : Heap} {C : Addr} {Z : List (Addr × Str)}
/-- the pair of a dict's entry, walked by items() -/
theorem items_get {d : Dc} {i : Nat} {y1 y2 : V} {e : Nat × Nat} (he : d[i]? = some e) (h1 : ((kvD d)[i]?).map (fun kv => kV kv.1) = some y1) (h2 : ((kvD d)[i]?).map Prod.snd = some y2) : y1 = .int (e.1 : Nat) ∧ y2 = .int (e.2 : Nat) := by
  have hkv : (kvD d)[i]? = some (Sum.inl (e.1 : Int), V.int (e.2 : Nat)) := by
    unfold kvD
    rw [List.getElem?_map, he]
    rfl
  rw [hkv] at h1 h2
  exact ⟨(Option.some.inj h1).symm, (Option.some.inj h2).symm⟩
theorem kvD_keys (d : Dc) : (kvD d).map (·.1) = (d.map fun e => (e.1 : Int)).map Sum.inl := by
  unfold kvD
  rw [List.map_map, List.map_map]
  rfl
def spWordsBy (K : PySem.W.Frag) (Z : List (Addr × Str)) (C : Addr) : Sp := fun vs H Q _ => ∃ a s b W r ws, vs = [.ref a, .ref s, .ref b] ∧ WatchAt K C H a W ∧ W.Ok ∧ RowAt K H s W r ∧ WsAt K H b W.k ws ∧
  ∀ p wd H', Ex Z H H' → H' p = some (.tup [.ref wd, .int (whole ws W.k r : Nat)]) → DkAt H' wd (tabK (M W ws r)) → Q (.ref p) H'
theorem sc_words_by : FnScope ["watch", "shown", "weights", "found", "whole", "words", "place", "many", "word"] ["watch", "shown", "weights"] (defScope s_words_by) := ⟨rfl, rfl, rfl, by decide +kernel, rfl, by decide +kernel, by decide +kernel⟩
theorem words_by_ok (T : Txt K mg C) (D : Df K mg "words_by" s_words_by []) (p_words : Pg P w K mg base 1 C "words" (spWords K C)) (c_numbers_by : C8.Cal P w K mg base 4 "numbers_by" (spNumbers K Z C) []) : C8.Cal P w K mg base 5 "words_by" (spWordsBy K Z C) [] := by
  refine D.cal (k := 4) sc_words_by (by intro kV doc pm an cdv ct us h; match us, h with | [_, _, _], _ => rfl) (by rintro _ _ _ _ ⟨_, _, _, _, _, _, rfl, _⟩; rfl) ?_
  rintro f cdv A outer s H _ Q E hr ⟨a, sa, b, W, r, ws, rfl, hW, ok, hR, hw, hq⟩
  have hu := hu_of hr
  have hws := hw.2
  refine ⟨_, (pss_cons (ps_asg (C8.pe_c c_numbers_by hr (by decide) (by rfl) (pa_cons (pv 0) (pa_cons (pv 1) (pa_cons (pv 2) pa_nil)))) (pg_tupK (K := K) (n := 2) rfl rfl (pgs_cons (pg_name (i := 3) sc_words_by.nd rfl (by first | exact Or.inl rfl | exact Or.inr rfl)) (pgs_cons (pg_name (i := 4) sc_words_by.nd rfl (by first | exact Or.inl rfl | exact Or.inr rfl)) pgs_nil))))
      (pss_cons (ps_set (i := 5) sc_words_by.nd rfl (by first | exact Or.inl rfl | exact Or.inr rfl) pe_dnewK)
      (pss_cons (ps_lock (ps_for PassesOwn.never rfl (pi_items (pv 3)) (pg_tupK (K := K) (n := 2) rfl rfl (pgs_cons (pg_name (i := 6) sc_words_by.nd rfl (by first | exact Or.inl rfl | exact Or.inr rfl)) (pgs_cons (pg_name (i := 7) sc_words_by.nd rfl (by first | exact Or.inl rfl | exact Or.inr rfl)) pgs_nil)))
      (pss_one (ps_dput hu (pv 5) (pe_ix (ixtK (K := K) rfl) (pe_pg p_words T.cl (pv 0) hr (by decide) rfl) (pv 6) (fun _ _ => rfl)) (pe_op op_add (pe_dget2 hu (pv 5) (pe_ix (ixtK (K := K) rfl) (pe_pg p_words T.cl (pv 0) hr (by decide) rfl) (pv 6) (fun _ _ => rfl)) pe_int ⟨rfl, rfl, rfl, rfl⟩) (pv 7)) rfl))))
      (pss_one (ps_ret (pe_tup (pa_cons (pe_dc (own := [("word", 8)]) rfl sc_words_by.nd (pi_seqK (K := K) rfl (pe_callB (cr_sortedDI rfl) (by rfl) T.sorted bt_sorted (pa_cons (pv 5) pa_nil))) (blkOk_by (own := [("word", 8)]) (N := ["watch", "shown", "weights", "found", "whole", "words", "place", "many", "word"]) (sc := defScope s_words_by) (by decide +kernel)) (fun _ _ _ _ _ => (pg_name (i := 8) sc_words_by.nd rfl (by first | exact Or.inl rfl | exact Or.inr rfl))) (fun _ _ _ _ _ => pts_nil) (fun _ _ _ _ _ => (pv 8)) (fun _ _ _ _ _ => (pe_dget hu (pv 5) (pv 8) (fun _ _ => rfl)))) (pa_cons (pv 4) pa_nil)))))))), ?_⟩
  refine ⟨_, rfl, _, rfl, _, rfl, a, sa, b, W, r, ws, rfl, hW, ok, hR, hw, fun p fd H1 x1 hp hf => ?_⟩
  refine ⟨_, _, rfl, SqT.of hp, rfl, _, _, rfl, _, _, rfl, rfl, ?_⟩
  generalize hF : numbers W ws r = found at hf
  have hg : Od.Good W.n found := by rw [← hF]; exact numbers_good ok (fun c h => (hws c h).1) hR.2.2
  refine fun d nd => ?_
  have x2 : Ex Z H1 (upd H1 d (.dK [])) := Ex.new nd
  have ef : upd H1 d (.dK []) fd = some (.dK (kvD found)) := x2.dk hf
  refine ⟨fd, _, ef, trivial, fun od => ?_⟩
  refine ⟨_, rfl, fd, od, kvD found, rfl, upd_same, ?_⟩
  have nfd : fd ≠ d := fun z => by
    rw [z] at hf
    rw [show H1 d = _ from hf] at nd
    cases nd
  generalize eH2 : upd (upd H1 d (.dK [])) fd (.frz od (.dK (kvD found))) = H2
  have hW2 : WatchAt K C H2 a W := by
    rw [← eH2]
    exact WatchAt.put (hW.ex (x1.trans x2)) (Ml.of ef trivial)
  have f2 : H2 fd = some (.frz od (.dK (kvD found))) := by
    rw [← eH2]
    exact upd_same
  have d2 : H2 d = some (.dK []) := by
    rw [← eH2, upd_ne nfd.symm]
    exact upd_same
  have dB : ∀ b ∈ [d], ∀ u, H2 b = some u → Ml u := fun b hb u e => Ml.of d2 trivial u (by rw [← List.mem_singleton.mp hb]; exact e)
  refine for_it (n := (kvD found).length) walk_items (fun i σ H' => ∃ u6 u7 u8, σ = [some (.ref a), some (.ref sa), some (.ref b), some (.ref fd), some (.int (whole ws W.k r : Nat)), some (.ref d), u6, u7, u8] ∧ Exb Z [d] H2 H' ∧ DkAt H' d ((found.take i).foldl (fun acc e => bump acc (W.wd e.1) e.2) [])) ⟨_, _, _, rfl, Exb.refl _, d2⟩
    (fun i σ H' _ ⟨_, _, _, _, x, _⟩ => x.frzb (fun z => nfd (List.mem_singleton.mp z)) f2) (fun i x σ H3 H4 hlt ⟨u6, u7, u8, hσ, x3, hd3⟩ hy => ?_) fun σ H3 ⟨u6, u7, u8, hσ, x3, hd3⟩ => ?_
  · subst hσ
    obtain ⟨t, y1, y2, rfl, nt, rfl, hy1, hy2⟩ := hy
    rw [kvD_len] at hlt
    obtain ⟨e, he⟩ : ∃ e, found[i]? = some e := ⟨found[i], List.getElem?_eq_getElem hlt⟩
    have hem := List.mem_of_getElem? he
    obtain ⟨rfl, rfl⟩ := items_get he hy1 hy2
    have hep := hg.lt e hem
    refine ⟨_, _, rfl, SqT.of upd_same, rfl, _, _, rfl, _, _, rfl, rfl, ?_⟩
    have x4 : Exb Z [d] H2 (upd H3 t (.tup [.int (e.1 : Nat), .int (e.2 : Nat)])) := x3.trans (Exb.new nt)
    have d4 : DkAt (upd H3 t (.tup [.int (e.1 : Nat), .int (e.2 : Nat)])) d ((found.take i).foldl (fun acc e => bump acc (W.wd e.1) e.2) []) := (Ex.new nt (Z := Z)).dk hd3
    generalize upd H3 t (.tup [.int (e.1 : Nat), .int (e.2 : Nat)]) = H4 at x4 d4
    have hW4 := hW2.exb x4 dB
    obtain ⟨dx, _, _, _, e1, _⟩ := id hW4
    have gacc : Od.Good 4 ((found.take i).foldl (fun acc e => bump acc (W.wd e.1) e.2) []) := wordsD_good_from _ [] (fun e he => ⟨Nat.lt_succ_of_le (ok.wd _ (hg.lt e (List.mem_of_mem_take he))), hg.ps e (List.mem_of_mem_take he)⟩) (good_nil _)
    have hlen := good_len gacc
    refine ⟨_, rfl, d, rfl, .inl ⟨_, .inl d4⟩, _, rfl, a, dx, _, rfl, e1, a, W, rfl, hW4, fun m hm => ?_⟩
    refine ⟨_, rfl, ixT hm (lineV_at hep) ?_⟩
    refine ⟨_, DGet.k (k := Sum.inl (W.wd e.1 : Int)) d4, _, rfl, _, _, kvD_getD _ _, rfl, _, rfl, _, rfl, a, dx, _, rfl, e1, a, W, rfl, hW4, fun m hm => ?_⟩
    refine ⟨_, rfl, ixT hm (lineV_at hep) ?_⟩
    refine ⟨d, _, rfl, DPut.k (k := Sum.inl (W.wd e.1 : Int)) d4 (by rw [kvD_len]; exact Nat.lt_of_le_of_lt hlen (by decide)), _, _, _, rfl, x4.mut (.inl (by simp)) (Mb.of d4 trivial), ?_⟩
    rw [foldl_take _ _ _ he]
    show upd H4 d (.dK (putK (kvD _) (Sum.inl (W.wd e.1 : Int)) (V.int (((_ : Nat) : Int) + ((_ : Nat) : Int))))) d = _
    rw [← Int.natCast_add, kvD_put]
    exact upd_same
  · subst hσ
    rw [kvD_len, List.take_of_length_le (Nat.le_refl _)] at hd3
    have hd3 : DkAt H3 d (wordsD W found) := hd3
    have ff := x3.frzb (fun z => nfd (List.mem_singleton.mp z)) f2
    have x5 : Ex Z H1 (upd H3 fd (.dK (kvD found))) := Exb.unb x2 nd (Exb.locked trivial ef (by rw [eH2]; exact x3) ff)
    have d5 : DkAt (upd H3 fd (.dK (kvD found))) d (wordsD W found) := by
      show upd H3 fd _ d = _
      rw [upd_ne nfd.symm]
      exact hd3
    refine ⟨ff, ?_⟩
    generalize upd H3 fd (.dK (kvD found)) = H5 at x5 d5
    have gw := wordsD_good ok hg
    have hget : ∀ v, get (wordsD W found) v = if M W ws r v = 0 then none else some (M W ws r v) := fun v => by
      rw [← hF]
      exact words_get ok (fun c h => (hws c h).1) hR.2.2 v
    refine ⟨_, rfl, d, kvD (wordsD W found), (wordsD W found).map fun e => (e.1 : Int), rfl, .inl d5, kvD_keys _, ?_, fun ks l hperm hsort nl => ?_⟩
    · rw [List.length_map]
      have := good_len gw
      omega
    have hks := keys_sorted (m := M W ws r) gw.nd gw.lt hget hperm hsort
    subst hks
    refine ⟨l, _, rfl, .inl (SqL.of upd_same), fun J G wk hG D hD => ?_⟩
    rw [List.length_map, List.length_map] at wk
    have x6 : Ex Z H5 (upd H5 l (.lst (((keysOf (M W ws r)).map fun (v : Nat) => (v : Int)).map V.int))) := Ex.new nl
    have d6 := x6.dk d5
    generalize upd H5 l (.lst (((keysOf (M W ws r)).map fun (v : Nat) => (v : Int)).map V.int)) = H6 at x6 d6 hG hD
    have kl : (keysOf (M W ws r)).length ≤ 4 := List.length_filter_le _ _
    refine dcE (B := []) (Z := Z) wk hD (hG Z [] · (by simp)) (fun i acc _ => acc = kvD (((keysOf (M W ws r)).take i).map fun v => (v, M W ws r v))) rfl (fun i acc x H7 H8 hi x7 ha hp hy => ?_) fun acc H7 x7 ha hp => ?_
    · obtain ⟨rfl, hx⟩ := hy
      rw [List.getElem?_map, List.getElem?_map, List.getElem?_eq_getElem hi] at hx
      obtain rfl := Option.some.inj hx
      have hmem : (keysOf (M W ws r))[i] ∈ keysOf (M W ws r) := List.getElem_mem hi
      have hv := (mem_keysOf.mp hmem).2
      refine ⟨rfl, _, rfl, _, rfl, _, rfl, d, .int (M W ws r (keysOf (M W ws r))[i] : Nat), rfl, ?_, ?_⟩
      · have := DGet.k (k := Sum.inl ((keysOf (M W ws r))[i] : Int)) (x7.dk d6)
        rw [kvD_get, hget, if_neg hv] at this
        exact this
      · refine DcP.put (k := Sum.inl ((keysOf (M W ws r))[i] : Int)) x7 hD ha (by simp) ?_ (Exb.refl _) ?_
        · rw [hp, kvD_len, List.length_map, List.length_take]
          omega
        · rw [hp, kvD_put, put_fresh]
          · rw [List.take_add_one, List.getElem?_eq_getElem hi, List.map_append]
            rfl
          · rw [List.map_map, show ((fun x : Nat × Nat => x.1) ∘ fun v => (v, M W ws r v)) = id from rfl, List.map_id]
            intro hm
            have nd := keysOf_nodup (M W ws r)
            rw [← List.take_append_drop i (keysOf (M W ws r)), List.nodup_append] at nd
            exact nd.2.2 _ hm _ (by rw [List.drop_eq_getElem_cons hi]; exact List.mem_cons_self) rfl
    · rw [List.take_of_length_le (Nat.le_refl _)] at hp
      subst hp
      refine ⟨_, rfl, by show 2 ≤ sizeLine; decide, fun q nq => ?_⟩
      exact hq q D _ ((((x1.trans x5).trans x6).trans x7).trans (Exb.new nq)) upd_same ((Ex.new nq (Z := Z)).dk ha)
end
end K62
/-! ==== B62h ==== -/
namespace K62
open PySem PySem.Spec PyProof.Rows L2 Fx Od
section
variable {P : Program} {w : World} {K : PySem.W.Frag} {mg : Str → Option Value} {base : Heap} {C : Addr} {Z : List (Addr × Str)}
/-! ### dicts of fractions -/
def encF (e : Nat × Addr) : Key × V := (Sum.inl (e.1 : Int), .ref e.2)
/-- at p a dict of fractions: the table t, some way about -/
def FdAt (H : Hp) (p : Addr) (t : Nat → Option (Nat × Nat)) : Prop := ∃ l : List (Nat × Addr), H p = some (.dK (l.map encF)) ∧ (l.map (·.1)).Nodup ∧ (∀ v, v ∈ l.map (·.1) ↔ (t v).isSome = true) ∧ ∀ e ∈ l, ∃ f, t e.1 = some f ∧ FracAt H e.2 f
theorem FracAt.ex {H H' : Hp} {p : Addr} {f : Nat × Nat} (x : Ex Z H H') (h : FracAt H p f) : FracAt H' p f := x.tup h
theorem FracAt.put {H : Hp} {p q : Addr} {f : Nat × Nat} {o : HO} (h : FracAt H p f) (m : ∀ u, H q = some u → Md u) : FracAt (upd H q o) p f := by
  show upd H q o p = _
  rw [upd_ne (fun e => (m (.tup _) (by rw [← e]; exact h) : False))]
  exact h
theorem FdAt.ex {H H' : Hp} {p : Addr} {t : Nat → Option (Nat × Nat)} (x : Ex Z H H') (h : FdAt H p t) : FdAt H' p t := by
  obtain ⟨l, h1, h2, h3, h4⟩ := h
  exact ⟨l, x.dk h1, h2, h3, fun e he => (h4 e he).imp fun f q => ⟨q.1, q.2.ex x⟩⟩
theorem encF_get (k : Nat) : ∀ l : List (Nat × Addr), valV (l.map encF) (Sum.inl (k : Int)) = ((l.find? fun e => decide (e.1 = k)).map fun e => V.ref e.2)
  | [] => rfl
  | e :: r => by
    rw [List.find?_cons]
    by_cases h : e.1 = k
    · rw [decide_eq_true h]
      show valV (encF e :: r.map encF) _ = _
      rw [valV_pos (by show (Sum.inl (e.1 : Int) : Key) = _; rw [h])]
      rfl
    · rw [decide_eq_false h]
      show valV (encF e :: r.map encF) _ = _
      have ih := encF_get k r
      unfold valV at ih ⊢
      rw [List.find?_cons, show decide ((encF e).1 = Sum.inl (k : Int)) = false from decide_eq_false fun z => h (by have := Sum.inl.inj (show (Sum.inl (e.1 : Int) : Key) = Sum.inl (k : Int) from z); omega)]
      exact ih
theorem find_mem {k : Nat} {a : Addr} : ∀ {l : List (Nat × Addr)}, (l.map (·.1)).Nodup → (k, a) ∈ l → (l.find? fun e => decide (e.1 = k)) = some (k, a)
  | e :: r, nd, h => by
    rw [List.map_cons] at nd
    have nd' := List.nodup_cons.mp nd
    rw [List.find?_cons]
    rcases List.mem_cons.mp h with q | q
    · rw [← q, decide_eq_true rfl]
    · have : ¬ e.1 = k := fun z => nd'.1 (List.mem_map.mpr ⟨_, q, z.symm⟩)
      rw [decide_eq_false this]
      exact find_mem nd'.2 q
theorem encF_mem {k : Nat} {a : Addr} {l : List (Nat × Addr)} (nd : (l.map (·.1)).Nodup) (h : (k, a) ∈ l) : valV (l.map encF) (Sum.inl (k : Int)) = some (.ref a) := by
  rw [encF_get, find_mem nd h]
  rfl
theorem dp_int {H : Hp} (i : Int) : Dp K H (.int i) (.int i) := .int i
theorem FracAt.dp {H : Hp} {p : Addr} {f : Nat × Nat} (h : FracAt H p f) : Dp K H (.ref p) (.tuple [.int (f.1 : Nat), .int (f.2 : Nat)]) := .tup (SqT.of h) (.cons (.int _) (.cons (.int _) .nil))
theorem FracAt.same {H : Hp} {p q : Addr} {f : Nat × Nat} (h : FracAt H p f) (h2 : FracAt H q f) : SameData K H (.ref p) (.ref q) := by
  exact ⟨_, _, h.dp, h2.dp, rfl, rfl, Nat.le_of_ble_eq_true rfl, SeqAt.eqv_refl _ rfl⟩
/-- two dicts of one table are equal -/
theorem FdAt.eq {H : Hp} {p q : Addr} {t : Nat → Option (Nat × Nat)} (h : FdAt H p t) (h2 : FdAt H q t) : ∃ ks ls, H p = some (.dK ks) ∧ H q = some (.dK ls) ∧ ks.length = ls.length ∧ ∀ e ∈ ks, ∃ u, valV ls e.1 = some u ∧ SameData K H e.2 u := by
  obtain ⟨l, a1, a2, a3, a4⟩ := h
  obtain ⟨m, b1, b2, b3, b4⟩ := h2
  have pm : (l.map (·.1)).Perm (m.map (·.1)) := (List.perm_ext_iff_of_nodup a2 b2).mpr fun v => by rw [a3, b3]
  refine ⟨_, _, a1, b1, ?_, fun e he => ?_⟩
  · have := pm.length_eq
    rw [List.length_map, List.length_map] at this
    rw [List.length_map, List.length_map, this]
  · obtain ⟨x, hx, rfl⟩ := List.mem_map.mp he
    obtain ⟨f, hf, hfa⟩ := a4 x hx
    have : x.1 ∈ m.map (·.1) := (b3 _).mpr (by rw [hf]; rfl)
    obtain ⟨y, hy, hxy⟩ := List.mem_map.mp this
    obtain ⟨g, hg, hga⟩ := b4 y hy
    refine ⟨.ref y.2, ?_, ?_⟩
    · show valV _ (Sum.inl (x.1 : Int)) = _
      exact encF_mem b2 (by rw [← hxy]; exact hy)
    · have e : f = g := by
        rw [hxy, hf] at hg
        exact Option.some.inj hg
      subst e
      exact hfa.same hga
/-- p was no object then (or a table) -/
def Nw (H : Hp) (p : Addr) : Prop := ∀ o, H p = some o → ∃ ps, o = .tbl ps
theorem Nw.of {H H' : Hp} {p : Addr} (x : Ex Z H H') (h : H' p = none) : Nw H p := fun o e => by
  cases o with
  | tbl ps => exact ⟨ps, rfl⟩
  | _ =>
    have := x.1 p _ (by simp) e (fun ps z => nomatch z)
    rw [h] at this
    cases this
theorem Nw.ex {H H' : Hp} {p : Addr} (x : Ex Z H H') (h : Nw H' p) : Nw H p := fun o e => by
  cases o with
  | tbl ps => exact ⟨ps, rfl⟩
  | _ => exact h _ (x.1 p _ (by simp) e (fun ps z => nomatch z))
theorem Nw.ne {H : Hp} {p q : Addr} {kvs : List (Key × V)} (h : Nw H p) (e : H q = some (.dK kvs)) : p ≠ q := fun z => by
  rw [← z] at e
  obtain ⟨ps, y⟩ := h _ e
  cases y
/-! ### odds_by, need_odds, odds -/
def spOdds (K : PySem.W.Frag) (Z : List (Addr × Str)) (C : Addr) : Sp := fun vs H Q _ => ∃ a s b W r ws, vs = [.ref a, .ref s, .ref b] ∧ WatchAt K C H a W ∧ W.Ok ∧ RowAt K H s W r ∧ WsAt K H b W.k ws ∧
  ∀ p H', Ex Z H H' → Nw H p → FdAt H' p (otab W ws r) → Q (.ref p) H'
theorem sc_odds_by : FnScope ["watch", "shown", "weights", "words", "whole", "word", "many"] ["watch", "shown", "weights"] (defScope s_odds_by) := ⟨rfl, rfl, rfl, by decide +kernel, rfl, by decide +kernel, by decide +kernel⟩
theorem whole_pos' {W : Wt} (ok : W.Ok) {ws : Nat → Nat} (h : ∀ c < W.k, 1 ≤ ws c ∧ ws c ≤ 1000000) (s : Od.Row) : 0 < whole ws W.k s := whole_pos ok.k1 (fun c hc => (h c hc).1) s
theorem odds_by_ok (T : Txt K mg C) (D : Df K mg "odds_by" s_odds_by []) (c_words_by : C8.Cal P w K mg base 5 "words_by" (spWordsBy K Z C) []) (c_fraction_of : C8.Cal P w K mg base 2 "fraction_of" (spFraction Z) []) : C8.Cal P w K mg base 6 "odds_by" (spOdds K Z C) [] := by
  refine D.cal (k := 5) sc_odds_by (by intro kV doc pm an cdv ct us h; match us, h with | [_, _, _], _ => rfl) (by rintro _ _ _ _ ⟨_, _, _, _, _, _, rfl, _⟩; rfl) ?_
  rintro f cdv A outer s H _ Q E hr ⟨a, sa, b, W, r, ws, rfl, hW, ok, hR, hw, hq⟩
  have hws := hw.2
  refine ⟨_, (pss_cons (ps_asg (C8.pe_c c_words_by hr (by decide) (by rfl) (pa_cons (pv 0) (pa_cons (pv 1) (pa_cons (pv 2) pa_nil)))) (pg_tupK (K := K) (n := 2) rfl rfl (pgs_cons (pg_name (i := 3) sc_odds_by.nd rfl (by first | exact Or.inl rfl | exact Or.inr rfl)) (pgs_cons (pg_name (i := 4) sc_odds_by.nd rfl (by first | exact Or.inl rfl | exact Or.inr rfl)) pgs_nil))))
      (pss_one (ps_ret (pe_lock (pe_dc (own := [("word", 5), ("many", 6)]) rfl sc_odds_by.nd (pi_items (pv 3)) (blkOk_by (own := [("word", 5), ("many", 6)]) (N := ["watch", "shown", "weights", "words", "whole", "word", "many"]) (sc := defScope s_odds_by) (by decide +kernel)) (fun _ _ _ _ _ => (pg_tupK (K := K) (n := 2) rfl rfl (pgs_cons (pg_name (i := 5) sc_odds_by.nd rfl (by first | exact Or.inl rfl | exact Or.inr rfl)) (pgs_cons (pg_name (i := 6) sc_odds_by.nd rfl (by first | exact Or.inl rfl | exact Or.inr rfl)) pgs_nil)))) (fun _ _ _ _ _ => pts_nil) (fun _ _ _ _ _ => (pv 5)) (fun _ _ _ _ _ => (C8.pe_c c_fraction_of hr (by decide) (by rfl) (pa_cons (pv 6) (pa_cons (pv 4) pa_nil))))))))), ?_⟩
  refine ⟨_, rfl, _, rfl, _, rfl, a, sa, b, W, r, ws, rfl, hW, ok, hR, hw, fun p fd H1 x1 hp hf => ?_⟩
  refine ⟨_, _, rfl, SqT.of hp, rfl, _, _, rfl, _, _, rfl, rfl, ?_⟩
  refine ⟨fd, _, hf, trivial, fun od => ?_⟩
  generalize eH2 : upd H1 fd (.frz od (.dK (kvD (tabK (M W ws r))))) = H2
  have f2 : H2 fd = some (.frz od (.dK (kvD (tabK (M W ws r))))) := by
    rw [← eH2]
    exact upd_same
  refine ⟨_, rfl, fd, od, _, rfl, f2, fun D hD => ?_⟩
  have kl : (keysOf (M W ws r)).length ≤ 4 := List.length_filter_le _ _
  have tl : (kvD (tabK (M W ws r))).length = (keysOf (M W ws r)).length := by rw [kvD_len]; exact List.length_map ..
  refine dcE (B := []) (Z := Z) (n := (kvD (tabK (M W ws r))).length) walk_items hD (fun H x => x.frz f2) (fun i acc H => ∃ l : List (Nat × Addr), acc = l.map encF ∧ l.map (·.1) = (keysOf (M W ws r)).take i ∧ ∀ e ∈ l, FracAt H e.2 (frac (M W ws r e.1) (whole ws W.k r))) ⟨[], rfl, rfl, fun e he => by cases he⟩
    (fun i acc x H3 H4 hi x3 ha hp hy => ?_) fun acc H3 x3 ha hp => ?_
  · obtain ⟨t, y1, y2, rfl, nt, rfl, hy1, hy2⟩ := hy
    rw [tl] at hi
    have he : (tabK (M W ws r))[i]? = some ((keysOf (M W ws r))[i], M W ws r (keysOf (M W ws r))[i]) := by
      unfold tabK
      rw [List.getElem?_map, List.getElem?_eq_getElem hi]
      rfl
    obtain ⟨rfl, rfl⟩ := items_get he hy1 hy2
    obtain ⟨l, rfl, hl, hfr⟩ := hp
    refine ⟨_, _, rfl, SqT.of upd_same, rfl, _, _, rfl, _, _, rfl, rfl, rfl, ?_⟩
    have x4 : Ex Z H3 (upd H3 t (.tup [.int ((keysOf (M W ws r))[i] : Nat), .int (M W ws r (keysOf (M W ws r))[i] : Nat)])) := Ex.new nt
    refine ⟨_, rfl, _, rfl, _, rfl, _, _, rfl, whole_pos' ok hws r, lt9000 (whole_lt ok hws hR.2.1), fun q H5 x5 hq5 => ?_⟩
    have x45 := x4.trans x5
    refine DcP.put (k := Sum.inl ((keysOf (M W ws r))[i] : Int)) x3 hD ha (by simp) ?_ x45 ⟨l ++ [((keysOf (M W ws r))[i], q)], ?_, ?_, fun e he => ?_⟩
    · have := congrArg List.length hl
      rw [List.length_map, List.length_take] at this
      rw [List.length_map]
      omega
    · unfold putK
      rw [if_neg]
      · rw [List.map_append]
        rfl
      · intro hany
        obtain ⟨y, hy, hyk⟩ := List.any_eq_true.mp hany
        obtain ⟨z, hz, rfl⟩ := List.mem_map.mp hy
        have hzk : z.1 = (keysOf (M W ws r))[i] := by
          have := Sum.inl.inj (show (Sum.inl (z.1 : Int) : Key) = Sum.inl ((keysOf (M W ws r))[i] : Int) from of_decide_eq_true hyk)
          omega
        have hm : z.1 ∈ (keysOf (M W ws r)).take i := by
          rw [← hl]
          exact List.mem_map.mpr ⟨z, hz, rfl⟩
        have nd := keysOf_nodup (M W ws r)
        rw [← List.take_append_drop i (keysOf (M W ws r)), List.nodup_append] at nd
        exact nd.2.2 _ hm _ (by rw [List.drop_eq_getElem_cons hi]; exact List.mem_cons_self) hzk
    · rw [List.map_append, hl, List.take_add_one, List.getElem?_eq_getElem hi]
      rfl
    · refine FracAt.put ?_ (Md.of (x45.dk ha) trivial)
      rcases List.mem_append.mp he with h | h
      · exact (hfr e h).ex x45
      · rw [List.mem_singleton.mp h]
        exact hq5
  · obtain ⟨l, rfl, hl, hfr⟩ := hp
    rw [tl, List.take_of_length_le (Nat.le_refl _)] at hl
    have ff := x3.frz f2
    have x5 : Ex Z H1 (upd H3 fd (.dK (kvD (tabK (M W ws r))))) := Exb.locked trivial hf (by rw [eH2]; exact x3) ff
    have nDf : D ≠ fd := fun z => by
      rw [z, f2] at hD
      cases hD
    refine ⟨ff, hq D _ (x1.trans x5) (Nw.of x1 (by rw [← eH2, upd_ne nDf] at hD; exact hD)) ⟨l, by rw [upd_ne nDf]; exact ha, by rw [hl]; exact keysOf_nodup _, fun v => ?_, fun e he => ?_⟩⟩
    · rw [hl, mem_keysOf]
      unfold otab
      by_cases hv : M W ws r v = 0
      · rw [if_pos hv]
        simp [hv]
      · rw [if_neg hv]
        refine ⟨fun _ => rfl, fun _ => ⟨?_, hv⟩⟩
        have := words_get ok (fun c h => (hws c h).1) hR.2.2 v
        rw [if_neg hv] at this
        have gw := wordsD_good ok (numbers_good ok (fun c h => (hws c h).1) hR.2.2)
        exact gw.lt _ (get_mem this)
    · refine ⟨frac (M W ws r e.1) (whole ws W.k r), ?_, ?_⟩
      · have hm : e.1 ∈ keysOf (M W ws r) := by
          rw [← hl]
          exact List.mem_map.mpr ⟨e, he, rfl⟩
        unfold otab
        rw [if_neg (mem_keysOf.mp hm).2]
      · have nf : e.2 ≠ fd := fun z => by
          have h1 : H3 e.2 = _ := hfr e he
          rw [z, ff] at h1
          cases h1
        show upd H3 fd _ e.2 = _
        rw [upd_ne nf]
        exact hfr e he
def spNeedOdds (K : PySem.W.Frag) (Z : List (Addr × Str)) (C : Addr) : Sp := fun vs H Q _ => ∃ a s b W r ws, vs = [.ref a, .ref s, .ref b] ∧ WatchAt K C H a W ∧ W.Ok ∧ RowAt K H s W r ∧ WsAt K H b W.k ws ∧ ∀ H', Ex Z H H' → Q .non H'
theorem sc_need_odds : FnScope ["watch", "shown", "weights"] ["watch", "shown", "weights"] (defScope s_need_odds) := ⟨rfl, rfl, rfl, by decide +kernel, rfl, by decide +kernel, by decide +kernel⟩
theorem need_odds_ok (D : Df K mg "need_odds" s_need_odds []) (c_need_watch : C8.Cal P w K mg base 1 "need_watch" (spNeedWatch C) [.non]) (c_need_shown : C8.Cal P w K mg base 3 "need_shown" (spNeedShown K Z C) []) (c_need_weights : C8.Cal P w K mg base 3 "need_weights" (spNeedWeights K Z C) []) : C8.Cal P w K mg base 4 "need_odds" (spNeedOdds K Z C) [] := by
  refine D.cal (k := 3) sc_need_odds (by intro kV doc pm an cdv ct us h; match us, h with | [_, _, _], _ => rfl) (by rintro _ _ _ _ ⟨_, _, _, _, _, _, rfl, _⟩; rfl) ?_
  rintro f cdv A outer s H _ Q E hr ⟨a, sa, b, W, r, ws, rfl, hW, ok, hR, hw, hq⟩
  obtain ⟨dx, _, _, _, e1, _⟩ := id hW
  refine ⟨_, (pss_cons (ps_expr (C8.pe_c c_need_watch hr (by decide) (by rfl) (pa_cons (pv 0) pa_nil)))
      (pss_cons (ps_expr (C8.pe_c c_need_shown hr (by decide) (by rfl) (pa_cons (pv 0) (pa_cons (pv 1) pa_nil))))
      (pss_one (ps_expr (C8.pe_c c_need_weights hr (by decide) (by rfl) (pa_cons (pv 0) (pa_cons (pv 2) pa_nil))))))), ?_⟩
  refine ⟨_, rfl, a, dx, _, rfl, e1, _, rfl, _, rfl, a, sa, W, r, rfl, hW, ok, hR.1, hR.2.1, hR.2.2, fun H1 x1 => ?_⟩
  exact ⟨_, rfl, _, rfl, a, b, W, ws, rfl, hW.ex x1, ok, x1.sqS hw.1, hw.2, fun H2 x2 => hq _ (x1.trans x2)⟩
theorem sc_odds : FnScope ["watch", "shown", "weights"] ["watch", "shown", "weights"] (defScope s_odds) := ⟨rfl, rfl, rfl, by decide +kernel, rfl, by decide +kernel, by decide +kernel⟩
theorem odds_ok (D : Df K mg "odds" s_odds []) (c_need_odds : C8.Cal P w K mg base 4 "need_odds" (spNeedOdds K Z C) []) (c_odds_by : C8.Cal P w K mg base 6 "odds_by" (spOdds K Z C) []) : C8.Cal P w K mg base 7 "odds" (spOdds K Z C) [] := by
  refine D.cal (k := 6) sc_odds (by intro kV doc pm an cdv ct us h; match us, h with | [_, _, _], _ => rfl) (by rintro _ _ _ _ ⟨_, _, _, _, _, _, rfl, _⟩; rfl) ?_
  rintro f cdv A outer s H _ Q E hr ⟨a, sa, b, W, r, ws, rfl, hW, ok, hR, hw, hq⟩
  refine ⟨_, (pss_cons (ps_expr (C8.pe_c c_need_odds hr (by decide) (by rfl) (pa_cons (pv 0) (pa_cons (pv 1) (pa_cons (pv 2) pa_nil)))))
      (pss_one (ps_ret (C8.pe_c c_odds_by hr (by decide) (by rfl) (pa_cons (pv 0) (pa_cons (pv 1) (pa_cons (pv 2) pa_nil))))))), ?_⟩
  refine ⟨_, rfl, _, rfl, _, rfl, a, sa, b, W, r, ws, rfl, hW, ok, hR, hw, fun H1 x1 => ?_⟩
  exact ⟨_, rfl, _, rfl, _, rfl, a, sa, b, W, r, ws, rfl, hW.ex x1, ok, hR.ex x1, hw.ex x1, fun p H2 x2 nw h2 => hq p _ (x1.trans x2) (nw.ex x1) h2⟩
end
end K62
/-! ==== B62i ==== -/
namespace K62
open PySem PySem.Spec PyProof.Rows L2 Fx Od
section
variable {P : Program} {w : World} {K : PySem.W.Frag} {mg : Str → Option Value} {base : Heap} {C : Addr} {Z : List (Addr × Str)}
/-! ### words that may come: words_of, later_words -/
def encN (l : List Nat) : List (Key × V) := l.map fun (x : Nat) => (Sum.inl (x : Int), V.non)
theorem encN_len (l : List Nat) : (encN l).length = l.length := by simp [encN]
theorem encN_any (k : Nat) (l : List Nat) : ((encN l).any fun kv => decide (kv.1 = Sum.inl (k : Int))) = decide (k ∈ l) := by
  induction l with
  | nil => rfl
  | cons a r ih =>
    show (decide ((Sum.inl (a : Int) : Key) = Sum.inl (k : Int)) || (encN r).any _) = _
    rw [ih]
    by_cases h : a = k
    · rw [decide_eq_true (by rw [h]), h]
      simp
    · rw [decide_eq_false (fun z => h (by have := Sum.inl.inj z; omega))]
      simp [h, Ne.symm h]
theorem encN_put (l : List Nat) (k : Nat) : putK (encN l) (Sum.inl (k : Int)) .non = encN (ins1 l k) := by
  unfold putK ins1
  rw [encN_any]
  by_cases h : k ∈ l
  · rw [if_pos (decide_eq_true h), if_pos h]
    unfold encN
    rw [List.map_map]
    apply List.map_congr_left
    intro x _
    show (if (Sum.inl (x : Int) : Key) = Sum.inl (k : Int) then _ else _) = _
    split <;> rfl
  · rw [if_neg (by rw [decide_eq_false h]; decide), if_neg h]
    unfold encN
    rw [List.map_append]
    rfl
theorem encN_merge : ∀ (ks l : List Nat), mergeK (encN l) (encN ks) = encN (insA l ks)
  | [], l => rfl
  | k :: r, l => by
    show mergeK (putK (encN l) (Sum.inl (k : Int)) .non) (encN r) = _
    rw [encN_put, encN_merge r]
    rfl
theorem lenLW {W : Wt} (ok : W.Ok) {t p : Nat} (hp : p < W.n) : (LW W t p).length ≤ 4 := nodup_len 4 _ (LW_nodup W t p) fun _ hx => LW_lt ok hp hx
theorem _root_.Fx.Exb.shift {H H' : Hp} {B : List Addr} {d : Addr} {o : HO} (x : Exb Z B H H') : Exb [] (d :: B) (upd H d o) H' := ⟨fun b u n e t => by
  have h := not_or.mp (fun z => n (List.mem_cons.mpr z))
  rw [upd_ne h.1] at e
  exact x.1 b u h.2 e t, fun _ q hq => by cases hq⟩
/-- a list of dicts: what may come from each place -/
def LwAt (K : PySem.W.Frag) (H : Hp) (r : Addr) (W : Wt) (t : Nat) : Prop := ∃ ds : List Addr, SqL K H r (ds.map V.ref) ∧ ds.length = W.n ∧ ∀ p d, ds[p]? = some d → H d = some (.dK (encN (LW W t p)))
theorem LwAt.ex {H H' : Hp} {r : Addr} {W : Wt} {t : Nat} (x : Ex Z H H') (h : LwAt K H r W t) : LwAt K H' r W t := by
  obtain ⟨ds, h1, h2, h3⟩ := h
  exact ⟨ds, x.sqL h1, h2, fun p d e => x.dk (h3 p d e)⟩
def spWordsOf (K : PySem.W.Frag) (Z : List (Addr × Str)) : Sp := fun vs H Q _ => ∃ s g W t k f, vs = [.ref s, .ref g] ∧ W.Ok ∧ LwAt K H s W t ∧ SqT K H g (lineV k f) ∧ (∀ c < k, f c < W.n) ∧ k ≤ 4 ∧
  ∀ p H', Ex Z H H' → H' p = some (.dK (encN ((List.range k).foldl (fun l c => insA l (LW W t (f c))) []))) → Q (.ref p) H'
theorem sc_words_of : FnScope ["several", "goals", "found", "goal"] ["several", "goals"] (defScope s_words_of) := ⟨rfl, rfl, rfl, by decide +kernel, rfl, by decide +kernel, by decide +kernel⟩
theorem words_of_ok (D : Df K mg "words_of" s_words_of []) : C8.Cal P w K mg base 1 "words_of" (spWordsOf K Z) [] := by
  refine D.cal (k := 0) sc_words_of (by intro kV doc pm an cdv ct us h; match us, h with | [_, _], _ => rfl) (by rintro _ _ _ _ ⟨_, _, _, _, _, _, rfl, _⟩; rfl) ?_
  rintro f cdv A outer s H _ Q E hr ⟨sa, g, W, t, k, fn, rfl, ok, ⟨ds, hs, hn, hd⟩, hg, hlt, hk, hq⟩
  refine ⟨_, (pss_cons (ps_set (i := 2) sc_words_of.nd rfl (by first | exact Or.inl rfl | exact Or.inr rfl) pe_dnewK)
      (pss_cons (ps_for PassesOwn.never rfl (pi_seqK (K := K) rfl (pv 1)) (pg_name (i := 3) sc_words_of.nd rfl (by first | exact Or.inl rfl | exact Or.inr rfl))
      (pss_one (ps_expr (pe_bm PySem.F.plainAttrs_dict PySem.F.slot_dict_update PySem.F.type_dict_update mt_update (pv 2) (pa_cons (pe_ix (ixlK (K := K) rfl) (pv 0) (pv 3) (fun _ _ => rfl)) pa_nil)))))
      (pss_one (ps_ret (pv 2))))), ?_⟩
  refine fun d nd => ?_
  have x1 : Ex Z H (upd H d (.dK [])) := Ex.new nd
  refine ⟨_, rfl, _, _, rfl, .inr (x1.sqT hg), fun J G wk hG => ?_⟩
  rw [lineV_len] at wk
  have hG' : ∀ H', Exb Z [] H H' → G H' := fun H' x => hG [] [d] H' (fun z u q => by rw [List.mem_singleton.mp z, upd_same] at q; rw [← Option.some.inj q]; trivial) x.shift
  refine for_it wk (fun i σ H' => ∃ u, σ = [some (.ref sa), some (.ref g), some (.ref d), u] ∧ Ex Z H H' ∧ H' d = some (.dK (encN (((List.range k).take i).foldl (fun l c => insA l (LW W t (fn c))) [])))) ⟨_, rfl, x1, by rw [List.take_zero]; exact upd_same⟩ (fun i σ H' _ ⟨u, _, x, _⟩ => hG' H' x)
    (fun i x σ H2 H3 hi ⟨u, hσ, x2, hd2⟩ hy => ?_) fun σ H2 ⟨u, hσ, x2, hd2⟩ => ?_
  · subst hσ
    obtain ⟨rfl, hx⟩ := hy
    obtain ⟨hc, rfl⟩ := lineV_get hx
    have hp := hlt i hc
    obtain ⟨b, hb⟩ : ∃ b, ds[fn i]? = some b := ⟨ds[fn i]'(by omega), List.getElem?_eq_getElem (by omega)⟩
    have hbd := x2.dk (hd _ _ hb)
    refine ⟨_, rfl, .inr (.inr (.inl ⟨rfl, .inl ⟨_, hd2⟩⟩)), _, rfl, _, rfl, ixL (x2.sqL hs) (v := .ref b) (by rw [List.getElem?_map, hb]; rfl) ?_⟩
    refine ⟨d, b, _, _, rfl, rfl, fun z => ?_, hd2, .inl hbd, ?_, ?_⟩
    · have h0 := hd _ _ hb
      rw [← z, nd] at h0
      cases h0
    · rw [encN_len, encN_len]
      have h1 := lenLW ok (t := t) hp
      have h2 : (((List.range k).take i).foldl (fun l c => insA l (LW W t (fn c))) []).length ≤ 4 := nodup_len 4 _ (foldA_nodup _ (by simp)) fun x hx => by
        rcases (mem_foldA _).mp hx with h | ⟨c, hc, h⟩
        · cases h
        · exact LW_lt ok (hlt c (List.mem_range.mp (List.mem_of_mem_take hc))) h
      exact Nat.le_trans (Nat.add_le_add h2 h1) (by decide)
    · refine ⟨_, rfl, x2.mut (.inr nd) (Mb.of hd2 trivial), ?_⟩
      rw [encN_merge, foldl_take _ _ _ (List.getElem?_range hc)]
      exact upd_same
  · subst hσ
    rw [List.take_of_length_le (by simp)] at hd2
    exact ⟨_, rfl, hq d H2 x2 hd2⟩
end
end K62
/-! ==== B62j ==== -/
namespace K62
open PySem PySem.Spec PyProof.Rows L2 Fx Od
section
variable {P : Program} {w : World} {K : PySem.W.Frag} {mg : Str → Option Value} {base : Heap} {C : Addr} {Z : List (Addr × Str)}
theorem SqL.ne {H : Hp} {p t : Addr} {o : HO} {xs : List V} (h : SqL K H t xs) (n : t ≠ p) : SqL K (upd H p o) t xs := by
  rcases h with (h | ⟨z, h⟩) | h
  · exact .inl (.inl (by rw [upd_ne n]; exact h))
  · exact .inl (.inr ⟨z, by rw [upd_ne n]; exact h⟩)
  · exact .inr h
theorem dk_ne {H : Hp} {p d : Addr} {o : HO} {kvs : List (Key × V)} {xs : List V} (h : H d = some (.dK kvs)) (hp : H p = some (.lst xs)) : upd H p o d = some (.dK kvs) := by
  rw [upd_ne (fun z => by rw [z, hp] at h; cases h)]
  exact h
theorem LwAt.ne {H : Hp} {r F : Addr} {W : Wt} {t : Nat} {xs : List V} {o : HO} (h : LwAt K H r W t) (n : r ≠ F) (hF : H F = some (.lst xs)) : LwAt K (upd H F o) r W t := by
  obtain ⟨ds, h1, h2, h3⟩ := h
  exact ⟨ds, SqL.ne h1 n, h2, fun p d e => dk_ne (h3 p d e) hF⟩
theorem atI_end {rows : List Addr} {i : Nat} {r : Addr} (hl : rows.length = i + 1) (hr : rows[i]? = some r) : atI (rows.map V.ref) (-1) = some (.ref r) := by
  have e : rows = rows.take i ++ [r] := by
    have h1 : rows.take (i + 1) = rows := List.take_of_length_le (by omega)
    rw [List.take_add_one, hr] at h1
    exact h1.symm
  rw [e, List.map_append]
  exact atI_last _ _
def LaterAt (K : PySem.W.Frag) (H : Hp) (a : Addr) (W : Wt) (len : Nat) : Prop := ∃ rows : List Addr, SqL K H a (rows.map V.ref) ∧ rows.length = len + 1 ∧ ∀ t r, rows[t]? = some r → LwAt K H r W t
theorem LaterAt.ex {H H' : Hp} {a : Addr} {W : Wt} {len : Nat} (x : Ex Z H H') (h : LaterAt K H a W len) : LaterAt K H' a W len := by
  obtain ⟨rows, h1, h2, h3⟩ := h
  exact ⟨rows, x.sqL h1, h2, fun t r e => (h3 t r e).ex x⟩
def spLater (K : PySem.W.Frag) (Z : List (Addr × Str)) (C : Addr) : Sp := fun vs H Q _ => ∃ a W len, vs = [.ref a, .int (len : Nat)] ∧ WatchAt K C H a W ∧ W.Ok ∧ len ≤ 40 ∧ ∀ p H', Ex Z H H' → LaterAt K H' p W len → Q (.ref p) H'
/-- within a comprehension of dicts -/
def PiD (l : Nat → List Nat) : Nat → List V → Hp → Prop := fun i acc H => ∃ ds : List Addr, acc = ds.map V.ref ∧ ds.length = i ∧ ∀ j d, ds[j]? = some d → H d = some (.dK (encN (l j)))
theorem PiD.step {l : Nat → List Nat} {i : Nat} {acc : List V} {H H' : Hp} {D q : Addr} (h : PiD l i acc H) (x : Ex Z H H') (hD : H' D = some (.lst acc)) (hq : H' q = some (.dK (encN (l i)))) : PiD l (i + 1) (acc ++ [.ref q]) (upd H' D (.lst (acc ++ [.ref q]))) := by
  obtain ⟨ds, rfl, hl, hd⟩ := h
  refine ⟨ds ++ [q], by simp, by simp [hl], fun j d e => dk_ne ?_ hD⟩
  by_cases hj : j < ds.length
  · rw [List.getElem?_append_left hj] at e
    exact x.dk (hd j d e)
  · rw [List.getElem?_append_right (by omega)] at e
    have j0 : j = i := by
      have := (List.getElem?_eq_some_iff.mp e).1
      simp at this
      omega
    rw [j0, hl, Nat.sub_self] at e
    rw [j0, ← Option.some.inj e]
    exact hq
theorem sc_later_words : FnScope ["watch", "length", "found", "ticks", "last", "word", "goals"] ["watch", "length"] (defScope s_later_words) := ⟨rfl, rfl, rfl, by decide +kernel, rfl, by decide +kernel, by decide +kernel⟩
theorem later_ok (T : Txt K mg C) (D : Df K mg "later_words" s_later_words []) (p_words : Pg P w K mg base 1 C "words" (spWords K C)) (p_moves : Pg P w K mg base 1 C "moves" (spMoves K C)) (c_words_of : C8.Cal P w K mg base 1 "words_of" (spWordsOf K Z) []) : C8.Cal P w K mg base 3 "later_words" (spLater K Z C) [] := by
  refine D.cal (k := 2) sc_later_words (by intro kV doc pm an cdv ct us h; match us, h with | [_, _], _ => rfl) (by rintro _ _ _ _ ⟨_, _, _, rfl, _⟩; rfl) ?_
  rintro f cdv A outer s H _ Q E hr ⟨a, W, len, rfl, hW, ok, hl, hq⟩
  have n6 := ok.n6
  have k4 := ok.k4
  obtain ⟨dx, _, _, _, e1, _⟩ := id hW
  refine ⟨_, (pss_cons (ps_set (i := 2) sc_later_words.nd rfl (by first | exact Or.inl rfl | exact Or.inr rfl) (pe_lst (pa_cons (pe_lc (own := [("word", 5)]) rfl sc_later_words.nd (pi_seqK (K := K) rfl (pe_pg p_words T.cl (pv 0) hr (by decide) rfl)) (blkOk_by (own := [("word", 5)]) (N := ["watch", "length", "found", "ticks", "last", "word", "goals"]) (sc := defScope s_later_words) (by decide +kernel)) (fun _ _ _ _ _ => (pg_name (i := 5) sc_later_words.nd rfl (by first | exact Or.inl rfl | exact Or.inr rfl))) (fun _ _ _ _ _ => pts_nil) (fun _ _ _ _ _ => (pe_disp (pps_cons (pv 5) pe_non pps_nil) (by rfl) (by rfl) (fun z => by cases z) (by decide)))) pa_nil)))
      (pss_cons (ps_for PassesOwn.never rfl (pi_range1 (by rfl) T.range (pa_cons (pv 1) pa_nil)) (pg_name (i := 3) sc_later_words.nd rfl (by first | exact Or.inl rfl | exact Or.inr rfl))
      (pss_cons (ps_set (i := 4) sc_later_words.nd rfl (by first | exact Or.inl rfl | exact Or.inr rfl) (pe_ix (ixlK (K := K) rfl) (pv 2) (pe_un un_neg pe_int) (fun _ _ => rfl)))
      (pss_one (ps_expr (pe_bm PySem.F.plainAttrs_list PySem.F.slot_list_append PySem.F.type_list_append mt_append (pv 2) (pa_cons (pe_lc (own := [("goals", 6)]) rfl sc_later_words.nd (pi_seqK (K := K) rfl (pe_pg p_moves T.cl (pv 0) hr (by decide) rfl)) (blkOk_by (own := [("goals", 6)]) (N := ["watch", "length", "found", "ticks", "last", "word", "goals"]) (sc := defScope s_later_words) (by decide +kernel)) (fun _ _ _ _ _ => (pg_name (i := 6) sc_later_words.nd rfl (by first | exact Or.inl rfl | exact Or.inr rfl))) (fun _ _ _ _ _ => pts_nil) (fun _ _ _ _ _ => (C8.pe_c c_words_of hr (by decide) (by rfl) (pa_cons (pv 4) (pa_cons (pv 6) pa_nil))))) pa_nil))))))
      (pss_one (ps_ret (pv 2))))), ?_⟩
  refine ⟨_, rfl, a, dx, _, rfl, e1, a, W, rfl, hW, fun m hm => ?_⟩
  refine ⟨m, _, rfl, .inr hm, fun J G wk hG D hD => ?_⟩
  rw [lineV_len] at wk
  refine lcE (B := []) (Z := Z) wk hD (hG Z [] · (by simp)) (by omega) (PiD fun j => LW W 0 j) ⟨[], rfl, rfl, fun j d e => by simp at e⟩ (fun i acc x H2 H3 hi x2 ha hla hp hy => ?_) fun acc H2 x2 ha hp => ?_
  · obtain ⟨rfl, hx⟩ := hy
    obtain ⟨hc, rfl⟩ := lineV_get hx
    refine ⟨rfl, fun q nq => ⟨_, rfl, upd_same, [(Sum.inl (W.wd i : Int), .non)], rfl, by show 1 ≤ 15; decide, ?_⟩⟩
    have x3 : Ex Z H3 (upd (upd H3 q (.dK [])) q (.dK (mergeK [] [(Sum.inl (W.wd i : Int), .non)]))) := (Ex.new nq).mut (.inr nq) (Mb.of upd_same trivial)
    exact LcP.put x2 hD ha (by simp) hla (by omega) x3 (hp.step x3 (x3.lst ha) upd_same)
  · refine ⟨by show 1 ≤ sizeLine; decide, fun F nF => ?_⟩
    have nDF : D ≠ F := fun z => by
      rw [z, nF] at ha
      cases ha
    obtain ⟨ds, rfl, hdl, hds⟩ := hp
    have x3 : Ex Z H2 (upd H2 F (.lst [.ref D])) := Ex.new nF
    have hD0 : LwAt K (upd H2 F (.lst [.ref D])) D W 0 := ⟨ds, SqL.of (x3.lst ha), hdl, fun p d e => x3.dk (hds p d e)⟩
    have hW3 := hW.ex (x2.trans x3)
    have hF3 : upd H2 F (.lst [.ref D]) F = some (.lst ([D].map V.ref)) := upd_same
    generalize upd H2 F (.lst [.ref D]) = H3 at x3 hD0 hW3 hF3
    have hB : ∀ b ∈ [F], ∀ u, H3 b = some u → Ml u := fun b hb u e => Ml.of hF3 trivial u (by rw [← List.mem_singleton.mp hb]; exact e)
    refine ⟨_, rfl, (len : Nat), rfl, by omega, by omega, for_range (lo := 0) (n := len) (fun i σ H' => ∃ rows u3 u4 u5 u6, σ = [some (.ref a), some (.int (len : Nat)), some (.ref F), u3, u4, u5, u6] ∧ rows.length = i + 1 ∧ Exb Z [F] H3 H' ∧ H' F = some (.lst (rows.map V.ref)) ∧ (∀ r ∈ rows, r ≠ F) ∧ ∀ t r, rows[t]? = some r → LwAt K H' r W t) ⟨[D], _, _, _, _, rfl, rfl, Exb.refl _, hF3, fun r hr => by rw [List.mem_singleton.mp hr]; exact nDF, fun t r e => ?_⟩ (fun i σ H4 hi ⟨rows, u3, u4, u5, u6, hσ, hrl, x4, hF, hne, hrows⟩ => ?_) fun σ H4 ⟨rows, u3, u4, u5, u6, hσ, hrl, x4, hF, hne, hrows⟩ => ?_⟩
    · cases t with
      | zero =>
        rw [← Option.some.inj (show some D = some r from e)]
        exact hD0
      | succ t => simp at e
    · subst hσ
      obtain ⟨r, hr⟩ : ∃ r, rows[i]? = some r := ⟨rows[i]'(by omega), List.getElem?_eq_getElem (by omega)⟩
      refine ⟨_, rfl, 1, rfl, F, _, _, .ref r, rfl, rfl, SqL.of hF, atI_end hrl hr, ?_⟩
      have hW4 := hW3.exb x4 hB
      obtain ⟨dx4, _, _, _, e4, _⟩ := id hW4
      refine ⟨_, rfl, .inl ⟨rfl, _, SqL.of hF⟩, _, rfl, a, dx4, _, rfl, e4, a, W, rfl, hW4, fun m4 rs h2 h3 h4 => ?_⟩
      refine ⟨m4, _, rfl, .inr h2, fun J G wk hG D' hD' => ?_⟩
      rw [List.length_map, h3] at wk
      refine lcE (B := []) (Z := Z) wk hD' (hG Z [] · (by simp)) (by omega) (PiD fun p => LW W (i + 1) p) ⟨[], rfl, rfl, fun j d e => by simp at e⟩ (fun p acc x H5 H6 hp x5 ha5 hla hpi hy => ?_) fun acc H5 x5 ha5 hpi => ?_
      · obtain ⟨rfl, hx⟩ := hy
        rw [List.getElem?_map, List.getElem?_eq_getElem (by omega)] at hx
        obtain rfl := Option.some.inj hx
        refine ⟨rfl, _, rfl, _, rfl, r, rs[p], W, i, W.k, W.mv p, rfl, ok, (hrows i r hr).ex x5, x5.sqT (h4 p _ (List.getElem?_eq_getElem (by omega))), fun c hc => ok.mv p hp c hc, k4, fun q H7 x7 hq7 => ?_⟩
        exact LcP.put x5 hD' ha5 (by simp) hla (by omega) x7 (hpi.step x7 (x7.lst ha5) hq7)
      · obtain ⟨ds', rfl, hdl', hds'⟩ := hpi
        have nD'F : D' ≠ F := fun z => by
          rw [z, hF] at hD'
          cases hD'
        have hF5 := x5.lst hF
        refine ⟨F, rows.map V.ref, .ref D', rfl, rfl, hF5, by rw [List.length_map, hrl]; exact Nat.lt_of_le_of_lt (show i + 1 ≤ 40 by omega) (by decide), ?_⟩
        refine ⟨rows ++ [D'], _, _, _, _, rfl, by simp [hrl], (x4.trans x5.any).mut (.inl (by simp)) (Mb.of hF5 trivial), by rw [List.map_append]; exact upd_same, fun r' hr' => ?_, fun t r' e => ?_⟩
        · rcases List.mem_append.mp hr' with h | h
          · exact hne _ h
          · rw [List.mem_singleton.mp h]
            exact nD'F
        · by_cases ht : t < rows.length
          · rw [List.getElem?_append_left ht] at e
            exact ((hrows t r' e).ex x5).ne (hne _ (List.mem_of_getElem? e)) hF5
          · rw [List.getElem?_append_right (by omega)] at e
            have t0 : t = i + 1 := by
              have := (List.getElem?_eq_some_iff.mp e).1
              simp at this
              omega
            rw [t0, hrl, Nat.sub_self] at e
            rw [t0, ← Option.some.inj e]
            exact LwAt.ne ⟨ds', SqL.of ha5, hdl', hds'⟩ nD'F hF5
    · subst hσ
      exact ⟨_, rfl, hq F H4 (x2.trans (Exb.unb x3 nF x4)) ⟨rows, SqL.of hF, hrl, hrows⟩⟩
end
end K62
/-! ==== B62k ==== -/
namespace K62
open PySem PySem.Spec PyProof.Rows L2 Fx Od
section
variable {P : Program} {w : World} {K : PySem.W.Frag} {mg : Str → Option Value} {base : Heap} {C : Addr} {Z : List (Addr × Str)}
/-! ### sure_at -/
theorem LaterAt.lock {H : Hp} {a line : Addr} {W : Wt} {len : Nat} {l : Dc} {o : HO} (ok : W.Ok) (h : LaterAt K H a W len) (hl : DkAt H line l) : LaterAt K (upd H line o) a W len := by
  obtain ⟨rows, h1, h2, h3⟩ := h
  have hm : ∀ u, H line = some u → Mi u := Mi.of hl trivial
  refine ⟨rows, SqL.putI h1 hm, h2, fun t r e => ?_⟩
  obtain ⟨ds, g1, g2, g3⟩ := h3 t r e
  refine ⟨ds, SqL.putI g1 hm, g2, fun p d e => ?_⟩
  have hd := g3 p d e
  rw [upd_ne (fun z => ?_)]
  · exact hd
  · rw [z, show H line = _ from hl] at hd
    have e2 : kvD l = encN (LW W t p) := HO.dK.inj (Option.some.inj hd)
    have hp : p < W.n := by
      rw [← g2]
      exact (List.getElem?_eq_some_iff.mp e).1
    obtain ⟨x, hx⟩ := LW_ne ok t p hp
    obtain ⟨y, ys, ey⟩ : ∃ y ys, LW W t p = y :: ys := by
      cases q : LW W t p with
      | nil => rw [q] at hx; cases hx
      | cons y ys => exact ⟨y, ys, rfl⟩
    rw [ey] at e2
    cases l with
    | nil => cases e2
    | cons e r =>
      have := (List.cons.inj e2).1
      have h4 : V.int (e.2 : Nat) = V.non := congrArg Prod.snd this
      cases h4
def spSureAt (K : PySem.W.Frag) (Z : List (Addr × Str)) (C : Addr) : Sp := fun vs H Q _ => ∃ a b W ws len, vs = [.ref a, .ref b, .int (len : Nat)] ∧ WatchAt K C H a W ∧ W.Ok ∧ WsAt K H b W.k ws ∧ len ≤ 40 ∧
  ∀ p F H', Ex Z H H' → H' p = some (.tup [.ref F, .int (Od.sumTo ws W.k ^ len : Nat)]) → H' F = some (.lst ((List.range (len + 1)).map fun i => V.int (foundN W ws len i : Nat))) → Q (.ref p) H'
theorem sc_sure_at : FnScope ["watch", "weights", "length", "later", "found", "line", "whole", "ticks", "sure", "behind", "place", "many", "kind", "goal"] ["watch", "weights", "length"] (defScope s_sure_at) := ⟨rfl, rfl, rfl, by decide +kernel, rfl, by decide +kernel, by decide +kernel⟩
theorem sure_at_ok (T : Txt K mg C) (D : Df K mg "sure_at" s_sure_at []) (p_moves : Pg P w K mg base 1 C "moves" (spMoves K C)) (c_later_words : C8.Cal P w K mg base 3 "later_words" (spLater K Z C) []) (c_power : C8.Cal P w K mg base 1 "power" spPower []) : C8.Cal P w K mg base 4 "sure_at" (spSureAt K Z C) [] := by
  refine D.cal (k := 3) sc_sure_at (by intro kV doc pm an cdv ct us h; match us, h with | [_, _, _], _ => rfl) (by rintro _ _ _ _ ⟨_, _, _, _, _, rfl, _⟩; rfl) ?_
  rintro f cdv A outer s H _ Q E hr ⟨a, b, W, ws, len, rfl, hW, ok, hw, hl, hq⟩
  have hu := hu_of hr
  have n6 := ok.n6
  have k4 := ok.k4
  have hws := hw.2
  have hw0 : ∀ c < W.k, 0 < ws c := fun c h => (hws c h).1
  refine ⟨_, (pss_cons (ps_asg (pe_tup (pa_cons (C8.pe_c c_later_words hr (by decide) (by rfl) (pa_cons (pv 0) (pa_cons (pv 2) pa_nil))) (pa_cons (pe_lst pa_nil) (pa_cons (pe_disp (pps_cons pe_int pe_int pps_nil) (by rfl) (by rfl) (fun z => by cases z) (by decide)) (pa_cons (pe_callB (sumK (K := K) rfl rfl) (by rfl) T.sum bt_sum (pa_cons (pv 1) pa_nil)) pa_nil))))) (pg_tupK (K := K) (n := 4) rfl rfl (pgs_cons (pg_name (i := 3) sc_sure_at.nd rfl (by first | exact Or.inl rfl | exact Or.inr rfl)) (pgs_cons (pg_name (i := 4) sc_sure_at.nd rfl (by first | exact Or.inl rfl | exact Or.inr rfl)) (pgs_cons (pg_name (i := 5) sc_sure_at.nd rfl (by first | exact Or.inl rfl | exact Or.inr rfl)) (pgs_cons (pg_name (i := 6) sc_sure_at.nd rfl (by first | exact Or.inl rfl | exact Or.inr rfl)) pgs_nil))))))
      (pss_cons (ps_for PassesOwn.never rfl (pi_range1 (by rfl) T.range (pa_cons (pe_op op_add (pv 2) pe_int) pa_nil)) (pg_name (i := 7) sc_sure_at.nd rfl (by first | exact Or.inl rfl | exact Or.inr rfl))
      (pss_cons (ps_lock (ps_setLc (i := 8) (own := [("place", 10)]) rfl sc_sure_at.nd rfl rfl (sw_true rfl rfl rfl (by decide +kernel)) (pi_keys (pv 5)) (blkOk_by (own := [("place", 10)]) (N := ["watch", "weights", "length", "later", "found", "line", "whole", "ticks", "sure", "behind", "place", "many", "kind", "goal"]) (sc := defScope s_sure_at) (by decide +kernel)) (fun _ _ _ _ _ => (pg_name (i := 10) sc_sure_at.nd rfl (by first | exact Or.inl rfl | exact Or.inr rfl))) (fun _ _ _ _ _ => pts_one (pt_cmpR op_eq (pe_callB call_lenD (by rfl) T.len bt_len (pa_cons (pe_ix (ixlK (K := K) rfl) (pe_ix (ixlK (K := K) rfl) (pv 3) (pe_op op_sub (pv 2) (pv 7)) (fun _ _ => rfl)) (pv 10) (fun _ _ => rfl)) pa_nil)) pe_int (nomark _))) (fun _ _ _ _ _ => (pv 10))))
      (pss_cons (ps_expr (pe_bm PySem.F.plainAttrs_list PySem.F.slot_list_append PySem.F.type_list_append mt_append (pv 4) (pa_cons (pe_op op_mulW (pe_callB (sumK (K := K) rfl rfl) (by rfl) T.sum bt_sum (pa_cons (pe_lc (own := [("place", 10)]) rfl sc_sure_at.nd (pi_seqK (K := K) rfl (pv 8)) (blkOk_by (own := [("place", 10)]) (N := ["watch", "weights", "length", "later", "found", "line", "whole", "ticks", "sure", "behind", "place", "many", "kind", "goal"]) (sc := defScope s_sure_at) (by decide +kernel)) (fun _ _ _ _ _ => (pg_name (i := 10) sc_sure_at.nd rfl (by first | exact Or.inl rfl | exact Or.inr rfl))) (fun _ _ _ _ _ => pts_nil) (fun _ _ _ _ _ => (pe_dget hu (pv 5) (pv 10) (fun _ _ => rfl)))) pa_nil)) (C8.pe_c c_power hr (by decide) (by rfl) (pa_cons (pv 6) (pa_cons (pe_op op_sub (pv 2) (pv 7)) pa_nil)))) pa_nil)))
      (pss_cons (ps_set (i := 9) sc_sure_at.nd rfl (by first | exact Or.inl rfl | exact Or.inr rfl) pe_dnewK)
      (pss_cons (ps_lock (ps_for PassesOwn.never rfl (pi_items (pv 5)) (pg_tupK (K := K) (n := 2) rfl rfl (pgs_cons (pg_name (i := 10) sc_sure_at.nd rfl (by first | exact Or.inl rfl | exact Or.inr rfl)) (pgs_cons (pg_name (i := 11) sc_sure_at.nd rfl (by first | exact Or.inl rfl | exact Or.inr rfl)) pgs_nil)))
      (pss_one (ps_if (pt_cmpR op_notIn_seq (pv 10) (pv 8) (by rfl)) (pss_one (ps_for PassesOwn.never rfl (pi_enumW (by rfl) T.enumerate (pa_cons (pe_ix (ixtK (K := K) rfl) (pe_pg p_moves T.cl (pv 0) hr (by decide) rfl) (pv 10) (fun _ _ => rfl)) pa_nil)) (pg_tupK (K := K) (n := 2) rfl rfl (pgs_cons (pg_name (i := 12) sc_sure_at.nd rfl (by first | exact Or.inl rfl | exact Or.inr rfl)) (pgs_cons (pg_name (i := 13) sc_sure_at.nd rfl (by first | exact Or.inl rfl | exact Or.inr rfl)) pgs_nil)))
      (pss_one (ps_dput hu (pv 9) (pv 13) (pe_op op_add (pe_dget2 hu (pv 9) (pv 13) pe_int ⟨rfl, rfl, rfl, rfl⟩) (pe_op op_mulW (pv 11) (pe_ix (ixsK (K := K) rfl) (pv 1) (pv 12) (fun _ _ => rfl)))) rfl)))) pss_nil))))
      (pss_one (ps_set (i := 5) sc_sure_at.nd rfl (by first | exact Or.inl rfl | exact Or.inr rfl) (pv 9))))))))
      (pss_one (ps_ret (pe_tup (pa_cons (pv 4) (pa_cons (C8.pe_c c_power hr (by decide) (by rfl) (pa_cons (pv 6) (pa_cons (pv 2) pa_nil))) pa_nil))))))), ?_⟩
  refine ⟨_, rfl, _, rfl, a, W, len, rfl, hW, ok, hl, fun la H1 x1 hla => ?_⟩
  refine ⟨by show 0 ≤ sizeLine; decide, fun F nF => ?_⟩
  refine fun li ni => ⟨upd_same, [(Sum.inl 0, .int 1)], rfl, by decide, ?_⟩
  have x2 : Ex Z H1 (upd H1 F (.lst [])) := Ex.new nF
  have hF2 : upd H1 F (.lst []) F = some (.lst []) := upd_same
  generalize upd H1 F (.lst []) = H2 at x2 hF2 ni
  have x3 : Ex Z H2 (upd (upd H2 li (.dK [])) li (.dK (mergeK [] [(Sum.inl 0, .int 1)]))) := (Ex.new ni).mut (.inr ni) (Mb.of upd_same trivial)
  have l3 : DkAt (upd (upd H2 li (.dK [])) li (.dK (mergeK [] [(Sum.inl 0, .int 1)]))) li [(0, 1)] := upd_same
  generalize upd (upd H2 li (.dK [])) li (.dK (mergeK [] [(Sum.inl 0, .int 1)])) = H3 at x3 l3
  have x13 := x2.trans x3
  refine ⟨_, rfl, b, (List.range W.k).map fun c => ((ws c : Nat) : Int), rfl, by rw [← lineV_ints]; exact (x1.trans x13).sqS hw.1, ?_⟩
  rw [sumTo_cast]
  refine ⟨by show 4 ≤ sizeLine; decide, fun tp nt => ?_⟩
  refine ⟨_, _, rfl, SqT.of upd_same, rfl, _, _, rfl, _, _, rfl, _, _, rfl, _, _, rfl, rfl, ?_⟩
  have x4 : Ex Z H3 (upd H3 tp (.tup [.ref la, .ref F, .ref li, .int (Od.sumTo ws W.k : Nat)])) := Ex.new nt
  generalize upd H3 tp (.tup [.ref la, .ref F, .ref li, .int (Od.sumTo ws W.k : Nat)]) = H4 at x4
  have x14 := x13.trans x4
  have hF4 := (x3.trans x4).lst hF2
  have l4 : DkAt H4 li [(0, 1)] := x4.dk l3
  have hW1 := hW.ex x1
  have hw1 := hw.ex x1
  refine ⟨_, rfl, _, _, rfl, rfl, ((len + 1 : Nat) : Int), rfl, by omega, by omega, ?_⟩
  refine for_range (lo := 0) (n := len + 1) (fun i σ H' => ∃ li u7 u8 u9 u10 u11 u12 u13, σ = [some (.ref a), some (.ref b), some (.int (len : Nat)), some (.ref la), some (.ref F), some (.ref li), some (.int (Od.sumTo ws W.k : Nat)), u7, u8, u9, u10, u11, u12, u13] ∧ Ex Z H1 H' ∧
      H' F = some (.lst ((List.range i).map fun j => V.int (foundN W ws len j : Nat))) ∧ DkAt H' li (lineD W ws len i)) ⟨li, _, _, _, _, _, _, _, rfl, x14, hF4, l4⟩ (fun i σ H5 hi ⟨li, u7, u8, u9, u10, u11, u12, u13, hσ, x5, hF5, l5⟩ => ?_) fun σ H5 ⟨li, u7, u8, u9, u10, u11, u12, u13, hσ, x5, hF5, l5⟩ => ?_
  · subst hσ
    have gL := line_good ok hw0 len i
    have hLl := good_len gL
    generalize hL : lineD W ws len i = L at l5 gL hLl
    have hLA : LaterAt K H5 la W len := (hla.ex x5)
    obtain ⟨rows, r1, r2, r3⟩ := hLA.lock (o := .frz default (.dK (kvD L))) ok l5
    refine ⟨li, _, l5, trivial, fun od => ⟨_, rfl, li, od, rfl, .inl ⟨_, upd_same, fun D hD => ?_⟩⟩⟩
    obtain ⟨rows, r1, r2, r3⟩ := hLA.lock (o := .frz od (.dK (kvD L))) ok l5
    obtain ⟨row, hrow⟩ : ∃ row, rows[len - i]? = some row := ⟨rows[len - i]'(by omega), List.getElem?_eq_getElem (by omega)⟩
    obtain ⟨ds, d1, d2, d3⟩ := r3 _ _ hrow
    have f6 : upd H5 li (.frz od (.dK (kvD L))) li = some (.frz od (.dK (kvD L))) := upd_same
    generalize eH6 : upd H5 li (.frz od (.dK (kvD L))) = H6 at hD f6 r1 d1 d3
    refine lcE (B := []) (Z := Z) (n := (kvD L).length) walk_keys hD (fun H x => x.frz f6) (by rw [kvD_len]; omega) (fun j acc _ => acc = (((L.take j).filter fun e => sureB W (len - i) e.1).map fun e => V.int (e.1 : Nat))) rfl (fun j acc x H7 H8 hj x7 ha hla' hp hy => ?_) fun acc H7 x7 ha hp => ?_
    · obtain ⟨rfl, k, v, hkv, rfl⟩ := hy
      rw [kvD_len] at hj
      obtain ⟨e, he⟩ : ∃ e, L[j]? = some e := ⟨L[j], List.getElem?_eq_getElem hj⟩
      have hem := List.mem_of_getElem? he
      have hep := gL.lt e hem
      have hkv2 : (kvD L)[j]? = some (Sum.inl (e.1 : Int), V.int (e.2 : Nat)) := by
        unfold kvD
        rw [List.getElem?_map, he]
        rfl
      rw [hkv2] at hkv
      obtain ⟨rfl, rfl⟩ := Prod.mk.inj (Option.some.inj hkv)
      obtain ⟨dd, hdd⟩ : ∃ dd, ds[e.1]? = some dd := ⟨ds[e.1]'(by omega), List.getElem?_eq_getElem (by omega)⟩
      refine ⟨rfl, _, rfl, _, rfl, _, rfl, _, _, rfl, rfl, ?_⟩
      refine ⟨la, _, _, .ref row, rfl, rfl, x7.sqL r1, ?_, ?_⟩
      · rw [show (len : Int) - (0 + (i : Int)) = ((len - i : Nat) : Int) by omega]
        exact atI_nat (by rw [List.getElem?_map, hrow]; rfl)
      refine ⟨_, rfl, ixL (x7.sqL d1) (v := .ref dd) (by rw [List.getElem?_map, hdd]; rfl) ?_⟩
      have hdec : V.bl (decide (V.int (((encN (LW W (len - i) e.1)).length : Nat) : Int) = V.int 1)) = V.bl (sureB W (len - i) e.1) := by
        rw [encN_len]
        unfold sureB
        refine congrArg V.bl (decide_eq_decide.mpr ⟨fun z => ?_, fun z => by rw [z]; rfl⟩)
        have := V.int.inj z
        omega
      cases hsu : sureB W (len - i) e.1 with
      | true =>
        refine ⟨dd, _, rfl, x7.dk (d3 _ _ hdd), rfl, true, by rw [hsu] at hdec; exact hdec, ?_⟩
        refine ⟨_, rfl, LcP.put x7 hD ha (by simp) hla' (by omega) (Exb.refl _) ?_⟩
        rw [filter_take _ _ he, if_pos hsu, hp, List.map_append]
        rfl
      | false =>
        refine ⟨dd, _, rfl, x7.dk (d3 _ _ hdd), rfl, false, by rw [hsu] at hdec; exact hdec, ?_⟩
        refine ⟨x7, acc, ha, by omega, ?_⟩
        show acc = (((L.take (j + 1)).filter fun e => sureB W (len - i) e.1).map fun e => V.int (e.1 : Nat))
        rw [filter_take _ _ he, if_neg (by rw [hsu]; decide), hp]
    rw [kvD_len, List.take_of_length_le (Nat.le_refl _)] at hp
    subst hp
    have f7 := x7.frz f6
    refine ⟨f7, ?_⟩
    have x8 : Ex Z H5 (upd H7 li (.dK (kvD L))) := Exb.locked trivial l5 (by rw [eH6]; exact x7) f7
    have nDl : D ≠ li := fun z => by
      rw [z, f6] at hD
      cases hD
    have ha8 : upd H7 li (.dK (kvD L)) D = some (.lst ((L.filter fun e => sureB W (len - i) e.1).map fun e => V.int (e.1 : Nat))) := by
      rw [upd_ne nDl]
      exact ha
    generalize upd H7 li (.dK (kvD L)) = H8 at x8 ha8
    have x18 := x5.trans x8
    have hF8 := x8.lst hF5
    have l8 : DkAt H8 li L := x8.dk l5
    refine ⟨_, rfl, .inl ⟨rfl, _, SqL.of hF8⟩, _, rfl, D, _, rfl, .inl (SqL.of ha8), fun J G wk hG D2 hD2 => ?_⟩
    rw [List.length_map] at wk
    have hSl : (L.filter fun e => sureB W (len - i) e.1).length ≤ 6 := Nat.le_trans (List.length_filter_le _ _) (Nat.le_trans hLl n6)
    refine lcE (B := []) (Z := Z) wk hD2 (hG Z [] · (by simp)) (by omega) (fun j acc _ => acc = (((L.filter fun e => sureB W (len - i) e.1).take j).map fun e => V.int (e.2 : Nat))) rfl (fun j acc x H9 H10 hj x9 ha9 hla' hp hy => ?_) fun acc H9 x9 ha9 hp => ?_
    · obtain ⟨rfl, hx⟩ := hy
      rw [List.getElem?_map, List.getElem?_eq_getElem hj] at hx
      obtain rfl := Option.some.inj hx
      have hmem := (List.mem_filter.mp (List.getElem_mem hj)).1
      refine ⟨rfl, _, rfl, _, rfl, li, .int (((L.filter fun e => sureB W (len - i) e.1)[j]).2 : Nat), rfl, ?_, ?_⟩
      · have hm2 : get L ((L.filter fun e => sureB W (len - i) e.1)[j]).1 = some ((L.filter fun e => sureB W (len - i) e.1)[j]).2 := mem_get gL.nd hmem
        have := DGet.k (k := Sum.inl (((L.filter fun e => sureB W (len - i) e.1)[j]).1 : Int)) (x9.dk l8)
        rw [kvD_get, hm2] at this
        exact this
      · refine LcP.put x9 hD2 ha9 (by simp) hla' (by omega) (Exb.refl _) ?_
        rw [hp, List.take_add_one, List.getElem?_eq_getElem hj, List.map_append]
        rfl
    rw [List.take_of_length_le (Nat.le_refl _)] at hp
    subst hp
    refine ⟨D2, (L.filter fun e => sureB W (len - i) e.1).map fun e => ((e.2 : Nat) : Int), rfl, .inl (SqL.of (by rw [ha9, List.map_map]; rfl)), ?_⟩
    have hsum : ((L.filter fun e => sureB W (len - i) e.1).map fun e => ((e.2 : Nat) : Int)).sum = ((Od.T (L.filter fun e => sureB W (len - i) e.1) (fun _ => 1) : Nat) : Int) := by
      rw [T_one, ← sum_cast, List.map_map]
      rfl
    rw [hsum]
    refine ⟨_, rfl, _, rfl, _, rfl, _, _, rfl, rfl, Od.sumTo ws W.k, len - i, ?_, sumTo_lt ok hws, by omega, ?_⟩
    · show [V.int _, V.int ((len : Int) - (0 + (i : Int)))] = _
      rw [show (len : Int) - (0 + (i : Int)) = ((len - i : Nat) : Int) by omega]
    have hTle : Od.T (L.filter fun e => sureB W (len - i) e.1) (fun _ => 1) < 2 ^ 6601 := by
      refine Nat.lt_of_le_of_lt ?_ (pow_lt (sumTo_lt ok hws) (show i ≤ 300 by omega))
      refine Nat.le_trans ?_ (line_le (W := W) (ws := ws) len i)
      rw [hL, T_filter (fun p => sureB W (len - i) p)]
      exact T_le fun p => by split <;> omega
    have hmul : ((Od.T (L.filter fun e => sureB W (len - i) e.1) (fun _ => 1) : Nat) : Int) * ((Od.sumTo ws W.k ^ (len - i) : Nat) : Int) = ((foundN W ws len i : Nat) : Int) := by
      rw [← Int.natCast_mul]
      unfold foundN
      rw [hL]
    refine ⟨_, _, rfl, rfl, wide_mul (a := 6601) (b := 6601) ?_ ?_ (by decide) (by decide) (by decide), F, _, .int (foundN W ws len i : Nat), rfl, ?_, x9.lst hF8, ?_, ?_⟩
    · rw [Int.natAbs_natCast]
      exact hTle
    · rw [Int.natAbs_natCast]
      exact pow_lt (sumTo_lt ok hws) (by omega)
    · show [V.int (_ * _)] = _
      rw [hmul]
    · rw [List.length_map, List.length_range]
      exact Nat.lt_of_le_of_lt (show i ≤ 40 by omega) (by decide)
    have hF9 := x9.lst hF8
    have x10 : Ex Z H1 (upd H9 F (.lst (((List.range i).map fun j => V.int (foundN W ws len j : Nat)) ++ [.int (foundN W ws len i : Nat)]))) := (x18.trans x9).mut (.inr nF) (Mb.of hF9 trivial)
    have nFl : li ≠ F := fun z => by
      have := x9.dk l8
      rw [z, hF9] at this
      cases this
    have nDF : D ≠ F := fun z => by
      have h1 : H6 F = some (.lst ((List.range i).map fun j => V.int (foundN W ws len j : Nat))) := by
        rw [← eH6, upd_ne nFl.symm]
        exact hF5
      rw [z, h1] at hD
      cases hD
    have l10 : DkAt (upd H9 F (.lst (((List.range i).map fun j => V.int (foundN W ws len j : Nat)) ++ [.int (foundN W ws len i : Nat)]))) li L := by
      show upd H9 F _ li = _
      rw [upd_ne nFl]
      exact x9.dk l8
    have hD10 : upd H9 F (.lst (((List.range i).map fun j => V.int (foundN W ws len j : Nat)) ++ [.int (foundN W ws len i : Nat)])) D = some (.lst ((L.filter fun e => sureB W (len - i) e.1).map fun e => V.int (e.1 : Nat))) := by
      rw [upd_ne nDF]
      exact x9.lst ha8
    have hF10 : upd H9 F (.lst (((List.range i).map fun j => V.int (foundN W ws len j : Nat)) ++ [.int (foundN W ws len i : Nat)])) F = some (.lst ((List.range (i + 1)).map fun j => V.int (foundN W ws len j : Nat))) := by
      rw [upd_same, List.range_succ, List.map_append]
      rfl
    generalize upd H9 F (.lst (((List.range i).map fun j => V.int (foundN W ws len j : Nat)) ++ [.int (foundN W ws len i : Nat)])) = H10 at x10 l10 hD10 hF10
    refine fun bd nbd => ?_
    have x11 : Ex Z H10 (upd H10 bd (.dK [])) := Ex.new nbd
    have l11 := x11.dk l10
    have hD11 := x11.lst hD10
    refine ⟨li, _, l11, trivial, fun od2 => ⟨_, rfl, li, od2, kvD L, rfl, upd_same, ?_⟩⟩
    have nlb : li ≠ bd := fun z => by
      rw [z] at l10
      rw [show H10 bd = _ from l10] at nbd
      cases nbd
    generalize eH12 : upd (upd H10 bd (.dK [])) li (.frz od2 (.dK (kvD L))) = H12
    have hW12 : WatchAt K C H12 a W := by
      rw [← eH12]
      exact WatchAt.put (hW1.ex (x10.trans x11)) (Ml.of l11 trivial)
    have hw12 : SqS K H12 b (lineV W.k ws) := by
      rw [← eH12]
      exact SqS.putI ((x10.trans x11).sqS hw1.1) (Mi.of l11 trivial)
    have hD12 : H12 D = some (.lst ((L.filter fun e => sureB W (len - i) e.1).map fun e => V.int (e.1 : Nat))) := by
      rw [← eH12, upd_ne nDl]
      exact hD11
    have f12 : H12 li = some (.frz od2 (.dK (kvD L))) := by
      rw [← eH12]
      exact upd_same
    have d12 : H12 bd = some (.dK []) := by
      rw [← eH12, upd_ne nlb.symm]
      exact upd_same
    have nDb : D ≠ bd := fun z => by
      rw [z, d12] at hD12
      cases hD12
    have dB : ∀ b ∈ [bd], ∀ u, H12 b = some u → Ml u := fun b hb u e => Ml.of d12 trivial u (by rw [← List.mem_singleton.mp hb]; exact e)
    have dB2 : ∀ b ∈ [bd], ∀ u, H12 b = some u → Mi u := fun b hb u e => Mi.of d12 trivial u (by rw [← List.mem_singleton.mp hb]; exact e)
    refine for_it (n := (kvD L).length) walk_items (fun j σ H' => ∃ u10 u11 u12 u13, σ = [some (.ref a), some (.ref b), some (.int (len : Nat)), some (.ref la), some (.ref F), some (.ref li), some (.int (Od.sumTo ws W.k : Nat)), some (.int (0 + (i : Int))), some (.ref D), some (.ref bd), u10, u11, u12, u13] ∧ Exb Z [bd] H12 H' ∧
      DkAt H' bd (((L.take j).filter fun e => !sureB W (len - i) e.1).foldl (fun acc e => heavier1 W ws none e acc) [])) ⟨_, _, _, _, rfl, Exb.refl _, d12⟩
      (fun j σ H' _ ⟨_, _, _, _, _, x, _⟩ => x.frzb (fun z => nlb (List.mem_singleton.mp z)) f12) (fun j x σ H13 H14 hj ⟨u10, u11, u12, u13, hσ, x13, d13⟩ hy => ?_) fun σ H13 ⟨u10, u11, u12, u13, hσ, x13, d13⟩ => ?_
    · subst hσ
      obtain ⟨t, y1, y2, rfl, nt, rfl, hy1, hy2⟩ := hy
      rw [kvD_len] at hj
      obtain ⟨e, he⟩ : ∃ e, L[j]? = some e := ⟨L[j], List.getElem?_eq_getElem hj⟩
      have hem := List.mem_of_getElem? he
      obtain ⟨rfl, rfl⟩ := items_get he hy1 hy2
      have hep := gL.lt e hem
      refine ⟨_, _, rfl, SqT.of upd_same, rfl, _, _, rfl, _, _, rfl, rfl, ?_⟩
      have x14 : Exb Z [bd] H12 (upd H13 t (.tup [.int (e.1 : Nat), .int (e.2 : Nat)])) := x13.trans (Exb.new nt)
      have d14 : DkAt (upd H13 t (.tup [.int (e.1 : Nat), .int (e.2 : Nat)])) bd _ := (Ex.new nt (Z := Z)).dk d13
      generalize upd H13 t (.tup [.int (e.1 : Nat), .int (e.2 : Nat)]) = H14 at x14 d14
      have hin : inV (.int (e.1 : Nat)) ((L.filter fun e => sureB W (len - i) e.1).map fun e => V.int (e.1 : Nat)) = sureB W (len - i) e.1 := by
        unfold inV
        rw [List.any_map]
        cases hsu : sureB W (len - i) e.1 with
        | true => exact List.any_eq_true.mpr ⟨e, List.mem_filter.mpr ⟨hem, hsu⟩, by show ((e.1 : Int) == (e.1 : Int)) = true; simp⟩
        | false =>
          rw [List.any_eq_false]
          intro y hy hyk
          have h1 : ((y.1 : Int) == (e.1 : Int)) = true := hyk
          have h2 : y.1 = e.1 := by
            have := eq_of_beq h1
            omega
          have h3 := (List.mem_filter.mp hy).2
          rw [h2, hsu] at h3
          cases h3
      cases hsu : sureB W (len - i) e.1 with
      | true =>
        refine ⟨_, rfl, _, rfl, D, _, rfl, .inl (SqL.of (x14.lstb (fun z => nDb (List.mem_singleton.mp z)) hD12)), rfl, by rw [List.all_map]; exact List.all_eq_true.mpr fun _ _ => rfl, false, ?_, ?_⟩
        · show V.bl (!inV _ _) = _
          rw [hin, hsu]
          rfl
        · refine ⟨_, _, _, _, rfl, x14, ?_⟩
          rw [filter_take (fun e : Nat × Nat => !sureB W (len - i) e.1) _ he, if_neg (by rw [hsu]; decide)]
          exact d14
      | false =>
        refine ⟨_, rfl, _, rfl, D, _, rfl, .inl (SqL.of (x14.lstb (fun z => nDb (List.mem_singleton.mp z)) hD12)), rfl, by rw [List.all_map]; exact List.all_eq_true.mpr fun _ _ => rfl, true, ?_, ?_⟩
        · show V.bl (!inV _ _) = _
          rw [hin, hsu]
          rfl
        have hW14 := hW12.exb x14 dB
        obtain ⟨dx, _, _, _, e1, _⟩ := id hW14
        refine ⟨_, rfl, a, dx, _, rfl, e1, a, W, rfl, hW14, fun m rs h2 h3 h4 => ?_⟩
        obtain ⟨r, hr0⟩ : ∃ r, rs[e.1]? = some r := ⟨rs[e.1]'(by omega), List.getElem?_eq_getElem (by omega)⟩
        refine ⟨_, rfl, ixT h2 (v := .ref r) (by rw [List.getElem?_map, hr0]; rfl) ?_⟩
        refine ⟨r, _, rfl, .inr (h4 _ _ hr0), fun J G wk hG => ?_⟩
        rw [lineV_len] at wk
        generalize hacc : ((L.take j).filter fun e => !sureB W (len - i) e.1).foldl (fun acc e => heavier1 W ws none e acc) [] = acc0 at d14
        have g0 : Od.Good W.n acc0 := by
          rw [← hacc]
          exact heavier_good_from ok hw0 (fun c e => by cases e) _ [] (fun x hx => by
            have hx2 := List.mem_of_mem_take (List.mem_filter.mp hx).1
            exact ⟨gL.lt x hx2, gL.ps x hx2⟩) (good_nil _)
        refine for_it wk (fun c σ H' => ∃ u12 u13, σ = [some (.ref a), some (.ref b), some (.int (len : Nat)), some (.ref la), some (.ref F), some (.ref li), some (.int (Od.sumTo ws W.k : Nat)), some (.int (0 + (i : Int))), some (.ref D), some (.ref bd), some (.int (e.1 : Nat)), some (.int (e.2 : Nat)), u12, u13] ∧ Exb Z [bd] H14 H' ∧
          DkAt H' bd (((List.range W.k).take c).foldl (fun acc c => bump acc (W.mv e.1 c) (e.2 * ws c)) acc0)) ⟨_, _, rfl, Exb.refl _, d14⟩ (fun c σ H' _ ⟨_, _, _, x, _⟩ => hG Z [bd] H' (fun z u q => by rw [List.mem_singleton.mp z, show H14 bd = _ from d14] at q; rw [← Option.some.inj q]; trivial) x)
          (fun c x σ H15 H16 hc ⟨u12, u13, hσ, x15, d15⟩ hy => ?_) fun σ H15 ⟨u12, u13, hσ, x15, d15⟩ => ?_
        · subst hσ
          obtain ⟨t2, z1, z2, rfl, nt2, rfl, hz1, hz2⟩ := hy
          obtain rfl := Option.some.inj hz1
          obtain ⟨hck, rfl⟩ := lineV_get hz2
          refine ⟨_, _, rfl, SqT.of upd_same, rfl, _, _, rfl, _, _, rfl, rfl, ?_⟩
          have x16 : Exb Z [bd] H14 (upd H15 t2 (.tup [.int (c : Nat), .int (W.mv e.1 c : Nat)])) := x15.trans (Exb.new nt2)
          have d16 : DkAt (upd H15 t2 (.tup [.int (c : Nat), .int (W.mv e.1 c : Nat)])) bd _ := (Ex.new nt2 (Z := Z)).dk d15
          generalize upd H15 t2 (.tup [.int (c : Nat), .int (W.mv e.1 c : Nat)]) = H16 at x16 d16
          have gacc : Od.Good W.n (((List.range W.k).take c).foldl (fun acc c => bump acc (W.mv e.1 c) (e.2 * ws c)) acc0) :=
            fold_bump_good _ _ _ _ (fun c hc => by
              have hc2 := List.mem_range.mp (List.mem_of_mem_take hc)
              exact ⟨ok.mv _ hep _ hc2, Nat.mul_pos (gL.ps e hem) (hw0 c hc2)⟩) g0
          have hlen := good_len gacc
          have hbe : e.2 < 2 ^ 6601 := by
            refine Nat.lt_of_le_of_lt (mem_le_T hem) ?_
            rw [← hL]
            exact Nat.lt_of_le_of_lt (line_le len i) (pow_lt (sumTo_lt ok hws) (by omega))
          have hmul2 : ((e.2 : Nat) : Int) * ((ws c : Nat) : Int) = ((e.2 * ws c : Nat) : Int) := by rw [← Int.natCast_mul]
          refine ⟨_, rfl, bd, rfl, .inl ⟨_, .inl d16⟩, _, rfl, _, DGet.k (k := Sum.inl (W.mv e.1 c : Int)) d16, _, rfl, _, rfl, _, rfl, ixS (hw12.exb (x14.trans x16) dB2) (lineV_at hck) ?_⟩
          refine ⟨_, _, rfl, rfl, wide_mul (a := 6601) (b := 20) ?_ ?_ (by decide) (by decide) (by decide), _, _, kvD_getD _ _, rfl, _, rfl, _, rfl, bd, _, rfl, DPut.k (k := Sum.inl (W.mv e.1 c : Int)) d16 (by rw [kvD_len]; exact Nat.lt_of_le_of_lt hlen (Nat.lt_of_le_of_lt n6 (by decide))), _, _, rfl, ?_, ?_⟩
          · rw [Int.natAbs_natCast]
            exact hbe
          · rw [Int.natAbs_natCast]
            have := (hws c hck).2
            omega
          · exact x16.mut (.inl (by simp)) (Mb.of d16 trivial)
          · rw [foldl_take _ _ _ (List.getElem?_range hck)]
            show upd H16 bd (.dK (putK (kvD _) (Sum.inl (W.mv e.1 c : Int)) (V.int (((_ : Nat) : Int) + (((e.2 : Nat) : Int) * ((ws c : Nat) : Int)))))) bd = _
            rw [hmul2, ← Int.natCast_add, kvD_put]
            exact upd_same
        · subst hσ
          rw [List.take_of_length_le (by simp)] at d15
          refine ⟨_, _, _, _, rfl, x14.trans x15, ?_⟩
          rw [filter_take (fun e : Nat × Nat => !sureB W (len - i) e.1) _ he, if_pos (by rw [hsu]; rfl), List.foldl_append, hacc]
          exact d15
    · subst hσ
      rw [kvD_len, List.take_of_length_le (Nat.le_refl _)] at d13
      have ff := x13.frzb (fun z => nlb (List.mem_singleton.mp z)) f12
      have x14 : Ex Z H10 (upd H13 li (.dK (kvD L))) := Exb.unb x11 nbd (Exb.locked trivial l11 (by rw [eH12]; exact x13) ff)
      refine ⟨ff, _, rfl, bd, _, _, _, _, _, _, _, rfl, x10.trans x14, x14.lst hF10, ?_⟩
      show upd H13 li _ bd = _
      rw [upd_ne nlb.symm]
      show H13 bd = some (.dK (kvD (heavier W ws ((lineD W ws len i).filter fun e => !sureB W (len - i) e.1) none)))
      rw [hL]
      exact d13
  · subst hσ
    refine ⟨_, rfl, _, rfl, _, rfl, Od.sumTo ws W.k, len, rfl, sumTo_lt ok hws, by omega, by show 2 ≤ sizeLine; decide, fun p np => ?_⟩
    exact hq p F _ ((x1.trans x5).trans (Exb.new np)) upd_same ((Ex.new np (Z := Z)).lst hF5)
end
end K62
/-! ==== B62l ==== -/
namespace K62
open PySem PySem.Spec PyProof.Rows L2 Fx Od
section
variable {P : Program} {w : World} {K : PySem.W.Frag} {mg : Str → Option Value} {base : Heap} {C : Addr} {Z : List (Addr × Str)}
/-! ### need_timed, sure_times, mean_sure -/
def spNeedTimed (K : PySem.W.Frag) (Z : List (Addr × Str)) (C : Addr) : Sp := fun vs H Q _ => ∃ a b W ws len, vs = [.ref a, .ref b, .int (len : Nat)] ∧ WatchAt K C H a W ∧ W.Ok ∧ WsAt K H b W.k ws ∧ len ≤ 40 ∧ ∀ H', Ex Z H H' → Q .non H'
theorem sc_need_timed : FnScope ["watch", "weights", "length"] ["watch", "weights", "length"] (defScope s_need_timed) := ⟨rfl, rfl, rfl, by decide +kernel, rfl, by decide +kernel, by decide +kernel⟩
theorem need_timed_ok (T : Txt K mg C) (D : Df K mg "need_timed" s_need_timed []) (c_need_watch : C8.Cal P w K mg base 1 "need_watch" (spNeedWatch C) [.non]) (c_need_weights : C8.Cal P w K mg base 3 "need_weights" (spNeedWeights K Z C) []) (c_is_between : C8.Cal P w K mg base 2 "is_between" spBetween []) : C8.Cal P w K mg base 4 "need_timed" (spNeedTimed K Z C) [] := by
  refine D.cal (k := 3) sc_need_timed (by intro kV doc pm an cdv ct us h; match us, h with | [_, _, _], _ => rfl) (by rintro _ _ _ _ ⟨_, _, _, _, _, rfl, _⟩; rfl) ?_
  rintro f cdv A outer s H _ Q E hr ⟨a, b, W, ws, len, rfl, hW, ok, hw, hl, hq⟩
  obtain ⟨dx, _, _, _, e1, _⟩ := id hW
  refine ⟨_, (pss_cons (ps_expr (C8.pe_c c_need_watch hr (by decide) (by rfl) (pa_cons (pv 0) pa_nil)))
      (pss_cons (ps_expr (C8.pe_c c_need_weights hr (by decide) (by rfl) (pa_cons (pv 0) (pa_cons (pv 1) pa_nil))))
      (pss_one (ps_if (pt_not (pt_val (C8.pe_c c_is_between hr (by decide) (by rfl) (pa_cons (pv 2) (pa_cons pe_int (pa_cons (C8.pe_gc (by rfl) T.c_MOST_LENGTH) pa_nil)))))) (pss_one ps_never) pss_nil)))), ?_⟩
  refine ⟨_, rfl, a, dx, _, rfl, e1, _, rfl, _, rfl, a, b, W, ws, rfl, hW, ok, hw.1, hw.2, fun H1 x1 => ?_⟩
  exact ⟨_, rfl, _, _, _, rfl, by omega, by omega, true, rfl, hq _ x1⟩
/-- a tuple of fractions -/
def TfAt (H : Hp) (p : Addr) (fs : List (Nat × Nat)) : Prop := ∃ l : List Addr, H p = some (.tup (l.map V.ref)) ∧ l.length = fs.length ∧ ∀ (i : Nat) (a : Addr), l[i]? = some a → ∃ f, fs[i]? = some f ∧ FracAt H a f
theorem TfAt.ex {H H' : Hp} {p : Addr} {fs : List (Nat × Nat)} (x : Ex Z H H') (h : TfAt H p fs) : TfAt H' p fs := by
  obtain ⟨l, h1, h2, h3⟩ := h
  exact ⟨l, x.tup h1, h2, fun i a e => (h3 i a e).imp fun f q => ⟨q.1, q.2.ex x⟩⟩
def spSureTimes (K : PySem.W.Frag) (Z : List (Addr × Str)) (C : Addr) : Sp := fun vs H Q _ => ∃ a b W ws len, vs = [.ref a, .ref b, .int (len : Nat)] ∧ WatchAt K C H a W ∧ W.Ok ∧ WsAt K H b W.k ws ∧ len ≤ 40 ∧
  ∀ p H', Ex Z H H' → TfAt H' p ((List.range (len + 1)).map fun i => frac (foundN W ws len i) (Od.sumTo ws W.k ^ len)) → Q (.ref p) H'
theorem range_get {n i : Nat} {f : Nat → V} {v : V} (h : ((List.range n).map f)[i]? = some v) : i < n ∧ v = f i := by
  rw [List.getElem?_map] at h
  by_cases hi : i < n
  · rw [List.getElem?_range hi] at h
    exact ⟨hi, (Option.some.inj h).symm⟩
  · rw [List.getElem?_eq_none (by simp; omega)] at h
    cases h
theorem sc_sure_times : FnScope ["watch", "weights", "length", "found", "whole", "many"] ["watch", "weights", "length"] (defScope s_sure_times) := ⟨rfl, rfl, rfl, by decide +kernel, rfl, by decide +kernel, by decide +kernel⟩
theorem sure_times_ok (T : Txt K mg C) (D : Df K mg "sure_times" s_sure_times []) (c_need_timed : C8.Cal P w K mg base 4 "need_timed" (spNeedTimed K Z C) []) (c_sure_at : C8.Cal P w K mg base 4 "sure_at" (spSureAt K Z C) []) (c_fraction_of : C8.Cal P w K mg base 2 "fraction_of" (spFraction Z) []) : C8.Cal P w K mg base 5 "sure_times" (spSureTimes K Z C) [] := by
  refine D.cal (k := 4) sc_sure_times (by intro kV doc pm an cdv ct us h; match us, h with | [_, _, _], _ => rfl) (by rintro _ _ _ _ ⟨_, _, _, _, _, rfl, _⟩; rfl) ?_
  rintro f cdv A outer s H _ Q E hr ⟨a, b, W, ws, len, rfl, hW, ok, hw, hl, hq⟩
  have hws := hw.2
  have wl : Od.sumTo ws W.k ^ len < 2 ^ 6601 := pow_lt (sumTo_lt ok hws) (by omega)
  have w0 : 0 < Od.sumTo ws W.k ^ len := Nat.pow_pos (sumTo_pos ok.k1 fun c h => (hws c h).1)
  refine ⟨_, (pss_cons (ps_expr (C8.pe_c c_need_timed hr (by decide) (by rfl) (pa_cons (pv 0) (pa_cons (pv 1) (pa_cons (pv 2) pa_nil)))))
      (pss_cons (ps_asg (C8.pe_c c_sure_at hr (by decide) (by rfl) (pa_cons (pv 0) (pa_cons (pv 1) (pa_cons (pv 2) pa_nil)))) (pg_tupK (K := K) (n := 2) rfl rfl (pgs_cons (pg_name (i := 3) sc_sure_times.nd rfl (by first | exact Or.inl rfl | exact Or.inr rfl)) (pgs_cons (pg_name (i := 4) sc_sure_times.nd rfl (by first | exact Or.inl rfl | exact Or.inr rfl)) pgs_nil))))
      (pss_one (ps_ret (pe_callTy (tupK (K := K) rfl) (by rfl) T.tuple bt_tuple (pa_cons (pe_lc (own := [("many", 5)]) rfl sc_sure_times.nd (pi_seqK (K := K) rfl (pv 3)) (blkOk_by (own := [("many", 5)]) (N := ["watch", "weights", "length", "found", "whole", "many"]) (sc := defScope s_sure_times) (by decide +kernel)) (fun _ _ _ _ _ => (pg_name (i := 5) sc_sure_times.nd rfl (by first | exact Or.inl rfl | exact Or.inr rfl))) (fun _ _ _ _ _ => pts_nil) (fun _ _ _ _ _ => (C8.pe_c c_fraction_of hr (by decide) (by rfl) (pa_cons (pv 5) (pa_cons (pv 4) pa_nil))))) pa_nil)))))), ?_⟩
  refine ⟨_, rfl, _, rfl, _, rfl, a, b, W, ws, len, rfl, hW, ok, hw, hl, fun H1 x1 => ?_⟩
  refine ⟨_, rfl, _, rfl, _, rfl, a, b, W, ws, len, rfl, hW.ex x1, ok, hw.ex x1, hl, fun p F H2 x2 hp hF => ?_⟩
  refine ⟨_, _, rfl, SqT.of hp, rfl, _, _, rfl, _, _, rfl, rfl, ?_⟩
  refine ⟨_, rfl, F, _, rfl, .inl (SqL.of hF), fun J G wk hG D hD => ?_⟩
  rw [List.length_map, List.length_range] at wk
  refine lcE (B := []) (Z := Z) wk hD (hG Z [] · (by simp)) (by omega) (fun i acc H => ∃ l : List Addr, acc = l.map V.ref ∧ l.length = i ∧ ∀ j a, l[j]? = some a → FracAt H a (frac (foundN W ws len j) (Od.sumTo ws W.k ^ len))) ⟨[], rfl, rfl, fun j a e => by simp at e⟩ (fun i acc x H3 H4 hi x3 ha hla hpi hy => ?_) fun acc H3 x3 ha hpi => ?_
  · obtain ⟨rfl, hx⟩ := hy
    obtain ⟨_, rfl⟩ := range_get hx
    obtain ⟨l, rfl, hll, hfr⟩ := hpi
    refine ⟨rfl, _, rfl, _, rfl, _, _, rfl, w0, lt9000 wl, fun q H5 x5 hq5 => ?_⟩
    refine LcP.put x3 hD ha (by simp) hla (by omega) x5 ⟨l ++ [q], by simp, by simp [hll], fun j a e => FracAt.put ?_ (Md.of (x5.lst ha) trivial)⟩
    by_cases hj : j < l.length
    · rw [List.getElem?_append_left hj] at e
      exact (hfr j a e).ex x5
    · rw [List.getElem?_append_right (by omega)] at e
      have j0 : j = i := by
        have := (List.getElem?_eq_some_iff.mp e).1
        simp at this
        omega
      rw [j0, hll, Nat.sub_self] at e
      rw [j0, ← Option.some.inj e]
      exact hq5
  · obtain ⟨l, rfl, hll, hfr⟩ := hpi
    refine ⟨D, _, rfl, .inl ⟨SqL.of ha, fun t nt => ?_⟩⟩
    have x4 : Ex Z H3 (upd H3 t (.tup (l.map V.ref))) := Ex.new nt
    refine hq t _ (((x1.trans x2).trans x3).trans x4) ⟨l, upd_same, by rw [hll]; simp, fun i a e => ⟨_, ?_, (hfr i a e).ex x4⟩⟩
    have hi : i < len + 1 := by
      have := (List.getElem?_eq_some_iff.mp e).1
      omega
    rw [List.getElem?_map, List.getElem?_range hi]
    rfl
def meanN (W : Wt) (ws : Nat → Nat) (len : Nat) : Nat × Nat := frac (Od.sumTo (fun i => i * foundN W ws len i) (len + 1)) (Od.sumTo ws W.k ^ len)
def spMean (K : PySem.W.Frag) (Z : List (Addr × Str)) (C : Addr) : Sp := fun vs H Q _ => ∃ a b W ws len, vs = [.ref a, .ref b, .int (len : Nat)] ∧ WatchAt K C H a W ∧ W.Ok ∧ WsAt K H b W.k ws ∧ len ≤ 40 ∧ ∀ p H', Ex Z H H' → FracAt H' p (meanN W ws len) → Q (.ref p) H'
theorem sc_mean_sure : FnScope ["watch", "weights", "length", "found", "whole", "ticks", "many"] ["watch", "weights", "length"] (defScope s_mean_sure) := ⟨rfl, rfl, rfl, by decide +kernel, rfl, by decide +kernel, by decide +kernel⟩
theorem mean_sure_ok (T : Txt K mg C) (D : Df K mg "mean_sure" s_mean_sure []) (c_need_timed : C8.Cal P w K mg base 4 "need_timed" (spNeedTimed K Z C) []) (c_sure_at : C8.Cal P w K mg base 4 "sure_at" (spSureAt K Z C) []) (c_fraction_of : C8.Cal P w K mg base 2 "fraction_of" (spFraction Z) []) : C8.Cal P w K mg base 5 "mean_sure" (spMean K Z C) [] := by
  refine D.cal (k := 4) sc_mean_sure (by intro kV doc pm an cdv ct us h; match us, h with | [_, _, _], _ => rfl) (by rintro _ _ _ _ ⟨_, _, _, _, _, rfl, _⟩; rfl) ?_
  rintro f cdv A outer s H _ Q E hr ⟨a, b, W, ws, len, rfl, hW, ok, hw, hl, hq⟩
  have hws := hw.2
  have wl : Od.sumTo ws W.k ^ len < 2 ^ 6601 := pow_lt (sumTo_lt ok hws) (by omega)
  have w0 : 0 < Od.sumTo ws W.k ^ len := Nat.pow_pos (sumTo_pos ok.k1 fun c h => (hws c h).1)
  refine ⟨_, (pss_cons (ps_expr (C8.pe_c c_need_timed hr (by decide) (by rfl) (pa_cons (pv 0) (pa_cons (pv 1) (pa_cons (pv 2) pa_nil)))))
      (pss_cons (ps_asg (C8.pe_c c_sure_at hr (by decide) (by rfl) (pa_cons (pv 0) (pa_cons (pv 1) (pa_cons (pv 2) pa_nil)))) (pg_tupK (K := K) (n := 2) rfl rfl (pgs_cons (pg_name (i := 3) sc_mean_sure.nd rfl (by first | exact Or.inl rfl | exact Or.inr rfl)) (pgs_cons (pg_name (i := 4) sc_mean_sure.nd rfl (by first | exact Or.inl rfl | exact Or.inr rfl)) pgs_nil))))
      (pss_one (ps_ret (C8.pe_c c_fraction_of hr (by decide) (by rfl) (pa_cons (pe_callB (sumK (K := K) rfl rfl) (by rfl) T.sum bt_sum (pa_cons (pe_lc (own := [("ticks", 5), ("many", 6)]) rfl sc_mean_sure.nd (pi_enumW (by rfl) T.enumerate (pa_cons (pv 3) pa_nil)) (blkOk_by (own := [("ticks", 5), ("many", 6)]) (N := ["watch", "weights", "length", "found", "whole", "ticks", "many"]) (sc := defScope s_mean_sure) (by decide +kernel)) (fun _ _ _ _ _ => (pg_tupK (K := K) (n := 2) rfl rfl (pgs_cons (pg_name (i := 5) sc_mean_sure.nd rfl (by first | exact Or.inl rfl | exact Or.inr rfl)) (pgs_cons (pg_name (i := 6) sc_mean_sure.nd rfl (by first | exact Or.inl rfl | exact Or.inr rfl)) pgs_nil)))) (fun _ _ _ _ _ => pts_nil) (fun _ _ _ _ _ => (pe_op op_mulW (pv 5) (pv 6)))) pa_nil)) (pa_cons (pv 4) pa_nil))))))), ?_⟩
  refine ⟨_, rfl, _, rfl, _, rfl, a, b, W, ws, len, rfl, hW, ok, hw, hl, fun H1 x1 => ?_⟩
  refine ⟨_, rfl, _, rfl, _, rfl, a, b, W, ws, len, rfl, hW.ex x1, ok, hw.ex x1, hl, fun p F H2 x2 hp hF => ?_⟩
  refine ⟨_, _, rfl, SqT.of hp, rfl, _, _, rfl, _, _, rfl, rfl, ?_⟩
  refine ⟨_, rfl, F, _, rfl, .inl (SqL.of hF), fun J G wk hG D hD => ?_⟩
  rw [List.length_map, List.length_range] at wk
  refine lcE (B := []) (Z := Z) wk hD (hG Z [] · (by simp)) (by omega) (fun i acc H => acc = (List.range i).map fun j => V.int (j * foundN W ws len j : Nat)) rfl (fun i acc x H3 H4 hi x3 ha hla hpi hy => ?_) fun acc H3 x3 ha hpi => ?_
  · obtain ⟨t, z1, z2, rfl, nt, rfl, hz1, hz2⟩ := hy
    obtain rfl := Option.some.inj hz1
    obtain ⟨hi2, rfl⟩ := range_get hz2
    refine ⟨_, _, rfl, SqT.of upd_same, rfl, _, _, rfl, _, _, rfl, rfl, rfl, ?_⟩
    refine ⟨_, rfl, _, rfl, _, _, rfl, rfl, wide_mul (a := 6) (b := 6601) ?_ ?_ (by decide) (by decide) (by decide), LcP.put x3 hD ha (by simp) hla (by omega) (Exb.new nt) ?_⟩
    · rw [Int.natAbs_natCast]
      exact Nat.lt_of_le_of_lt (show i ≤ 40 by omega) (by decide)
    · rw [Int.natAbs_natCast]
      exact Nat.lt_of_le_of_lt (found_le len i (by omega)) wl
    · rw [hpi, List.range_succ, List.map_append]
      show _ ++ [V.int (((i : Nat) : Int) * ((foundN W ws len i : Nat) : Int))] = _
      rw [← Int.natCast_mul]
      rfl
  · subst hpi
    refine ⟨D, (List.range (len + 1)).map fun c => ((c * foundN W ws len c : Nat) : Int), rfl, .inl (SqL.of (by rw [ha, List.map_map]; rfl)), ?_⟩
    rw [sumTo_cast]
    exact ⟨_, rfl, _, _, rfl, w0, lt9000 wl, fun q H4 x4 hq4 => hq q _ (((x1.trans x2).trans x3).trans x4) hq4⟩
end
end K62
/-! ==== B62m ==== -/
namespace K62
open PySem PySem.Spec PyProof.Rows L2 Fx Od
section
variable {P : Program} {w : World} {K : PySem.W.Frag} {mg : Str → Option Value} {base : Heap} {C : Addr} {Z : List (Addr × Str)}
/-! ### greatest_of, best_guess, with_item, guessed_by, is_above, most_telling -/
def spGreatest (Z : List (Addr × Str)) : Sp := fun vs H Q _ => ∃ d m, vs = [.ref d] ∧ DkAt H d (tabK m) ∧ keysOf m ≠ [] ∧ ∀ p H', Ex Z H H' → H' p = some (.tup [.int (gw m : Nat), .int (gm m : Nat)]) → Q (.ref p) H'
theorem sc_greatest_of : FnScope ["words", "many", "word"] ["words"] (defScope s_greatest_of) := ⟨rfl, rfl, rfl, by decide +kernel, rfl, by decide +kernel, by decide +kernel⟩
theorem tabK_get {m : Nat → Nat} {v : Nat} (h : v ∈ keysOf m) : get (tabK m) v = some (m v) := by
  refine mem_get ?_ (List.mem_map.mpr ⟨v, h, rfl⟩)
  show ((tabK m).map fun e : Nat × Nat => e.1).Nodup
  unfold tabK
  rw [List.map_map, show ((fun x : Nat × Nat => x.1) ∘ fun v => (v, m v)) = id from rfl, List.map_id]
  exact keysOf_nodup m
theorem greatest_ok (T : Txt K mg C) (D : Df K mg "greatest_of" s_greatest_of []) : C8.Cal P w K mg base 1 "greatest_of" (spGreatest Z) [] := by
  refine D.cal (k := 0) sc_greatest_of (by intro kV doc pm an cdv ct us h; match us, h with | [_], _ => rfl) (by rintro _ _ _ _ ⟨_, _, rfl, _⟩; rfl) ?_
  rintro f cdv A outer s H _ Q E hr ⟨d, m, rfl, hd, hne, hq⟩
  have hu := hu_of hr
  refine ⟨_, (pss_cons (ps_set (i := 1) sc_greatest_of.nd rfl (by first | exact Or.inl rfl | exact Or.inr rfl) (pe_maxVals rfl (by rfl) T.max (pv 0) rfl rfl rfl))
      (pss_one (ps_ret (pe_tup (pa_cons (pe_ix (ixlK (K := K) rfl) (pe_lock (pe_lc (own := [("word", 2)]) rfl sc_greatest_of.nd (pi_keys (pv 0)) (blkOk_by (own := [("word", 2)]) (N := ["words", "many", "word"]) (sc := defScope s_greatest_of) (by decide +kernel)) (fun _ _ _ _ _ => (pg_name (i := 2) sc_greatest_of.nd rfl (by first | exact Or.inl rfl | exact Or.inr rfl))) (fun _ _ _ _ _ => pts_one (pt_cmpR op_eq (pe_dget hu (pv 0) (pv 2) (fun _ _ => rfl)) (pv 1) (nomark _))) (fun _ _ _ _ _ => (pv 2)))) pe_int (fun _ _ => rfl)) (pa_cons (pv 1) pa_nil)))))), ?_⟩
  refine ⟨_, rfl, d, _, (keysOf m).map fun v => ((m v : Nat) : Int), rfl, .inl hd, ?_, ?_, fun x hx hle => ?_⟩
  · unfold kvD tabK
    rw [List.map_map, List.map_map, List.map_map]
    rfl
  · intro z
    exact hne (List.map_eq_nil_iff.mp z)
  have ex : x = ((gm m : Nat) : Int) := by
    refine gm_unique ?_ fun v hv => hle _ (List.mem_map.mpr ⟨v, hv, rfl⟩)
    obtain ⟨v, hv, e⟩ := List.mem_map.mp hx
    exact ⟨v, hv, e⟩
  subst ex
  have kl : (keysOf m).length ≤ 4 := List.length_filter_le _ _
  refine ⟨d, _, hd, trivial, fun od => ⟨_, rfl, d, od, rfl, .inl ⟨_, upd_same, fun D hD => ?_⟩⟩⟩
  have f1 : upd H d (.frz od (.dK (kvD (tabK m)))) d = some (.frz od (.dK (kvD (tabK m)))) := upd_same
  generalize eH1 : upd H d (.frz od (.dK (kvD (tabK m)))) = H1 at f1 hD
  have tl : (kvD (tabK m)).length = (keysOf m).length := by rw [kvD_len]; exact List.length_map ..
  refine lcE (B := []) (Z := Z) (n := (kvD (tabK m)).length) walk_keys hD (fun H x => x.frz f1) (by omega) (fun i acc _ => acc = (((keysOf m).take i).filter fun v => decide (m v = gm m)).map fun v => V.int (v : Nat)) rfl (fun i acc x H3 H4 hi x3 ha hla hp hy => ?_) fun acc H3 x3 ha hp => ?_
  · obtain ⟨rfl, k, v, hkv, rfl⟩ := hy
    rw [tl] at hi
    have hkv2 : (kvD (tabK m))[i]? = some (Sum.inl ((keysOf m)[i] : Int), V.int (m (keysOf m)[i] : Nat)) := by
      unfold kvD tabK
      rw [List.getElem?_map, List.getElem?_map, List.getElem?_eq_getElem hi]
      rfl
    rw [hkv2] at hkv
    obtain ⟨rfl, rfl⟩ := Prod.mk.inj (Option.some.inj hkv)
    have hmem : (keysOf m)[i] ∈ keysOf m := List.getElem_mem hi
    have hget : DGet H4 d (.int ((keysOf m)[i] : Nat)) (some (.int (m (keysOf m)[i] : Nat))) := by
      refine .inl ⟨kvD (tabK m), Sum.inl ((keysOf m)[i] : Int), .inr ⟨od, x3.frz f1⟩, rfl, ?_⟩
      rw [kvD_get, tabK_get hmem]
      rfl
    by_cases hm : m (keysOf m)[i] = gm m
    · refine ⟨rfl, _, rfl, _, rfl, d, _, rfl, hget, _, rfl, rfl, true, eqT (by rw [hm]), _, rfl, LcP.put x3 hD ha (by simp) hla (by omega) (Exb.refl _) ?_⟩
      rw [filter_take _ _ (List.getElem?_eq_getElem hi), if_pos (decide_eq_true hm), hp, List.map_append]
      rfl
    · refine ⟨rfl, _, rfl, _, rfl, d, _, rfl, hget, _, rfl, rfl, false, eqF (fun z => hm (by have := V.int.inj z; omega)), x3, acc, ha, by omega, ?_⟩
      show acc = (((keysOf m).take (i + 1)).filter fun v => decide (m v = gm m)).map fun v => V.int (v : Nat)
      rw [filter_take _ _ (List.getElem?_eq_getElem hi), if_neg (by rw [decide_eq_false hm]; decide), hp]
  · rw [tl, List.take_of_length_le (Nat.le_refl _)] at hp
    subst hp
    have ff := x3.frz f1
    have x4 : Ex Z H (upd H3 d (.dK (kvD (tabK m)))) := Exb.locked trivial hd (by rw [eH1]; exact x3) ff
    have nDd : D ≠ d := fun z => by
      rw [z, f1] at hD
      cases hD
    refine ⟨ff, ?_⟩
    refine ⟨D, _, ((0 : Nat) : Int), .int (gw m : Nat), rfl, rfl, SqL.of (show upd H3 d (.dK (kvD (tabK m))) D = _ by rw [upd_ne nDd]; exact ha), atI_nat (by rw [List.getElem?_map, gw_head hne]; rfl), ?_⟩
    exact ⟨_, rfl, by show 2 ≤ sizeLine; decide, fun p np => hq p _ (x4.trans (Exb.new np)) upd_same⟩
/-- a pair of a verdict and a fraction -/
def BgAt (H : Hp) (p : Addr) (e : Nat × (Nat × Nat)) : Prop := ∃ a, H p = some (.tup [.int (e.1 : Nat), .ref a]) ∧ FracAt H a e.2
theorem BgAt.ex {H H' : Hp} {p : Addr} {e : Nat × (Nat × Nat)} (x : Ex Z H H') (h : BgAt H p e) : BgAt H' p e := by
  obtain ⟨a, h1, h2⟩ := h
  exact ⟨a, x.tup h1, h2.ex x⟩
def bestF (W : Wt) (ws : Nat → Nat) (s : Od.Row) : Nat × (Nat × Nat) := (gw (M W ws s), frac (gm (M W ws s)) (whole ws W.k s))
def spBest (K : PySem.W.Frag) (Z : List (Addr × Str)) (C : Addr) : Sp := fun vs H Q _ => ∃ a s b W r ws, vs = [.ref a, .ref s, .ref b] ∧ WatchAt K C H a W ∧ W.Ok ∧ RowAt K H s W r ∧ WsAt K H b W.k ws ∧ ∀ p H', Ex Z H H' → BgAt H' p (bestF W ws r) → Q (.ref p) H'
theorem sc_best_guess : FnScope ["watch", "shown", "weights", "words", "whole", "word", "many"] ["watch", "shown", "weights"] (defScope s_best_guess) := ⟨rfl, rfl, rfl, by decide +kernel, rfl, by decide +kernel, by decide +kernel⟩
theorem best_ok (T : Txt K mg C) (D : Df K mg "best_guess" s_best_guess []) (c_need_odds : C8.Cal P w K mg base 4 "need_odds" (spNeedOdds K Z C) []) (c_words_by : C8.Cal P w K mg base 5 "words_by" (spWordsBy K Z C) []) (c_greatest_of : C8.Cal P w K mg base 1 "greatest_of" (spGreatest Z) []) (c_fraction_of : C8.Cal P w K mg base 2 "fraction_of" (spFraction Z) []) : C8.Cal P w K mg base 6 "best_guess" (spBest K Z C) [] := by
  refine D.cal (k := 5) sc_best_guess (by intro kV doc pm an cdv ct us h; match us, h with | [_, _, _], _ => rfl) (by rintro _ _ _ _ ⟨_, _, _, _, _, _, rfl, _⟩; rfl) ?_
  rintro f cdv A outer s H _ Q E hr ⟨a, sa, b, W, r, ws, rfl, hW, ok, hR, hw, hq⟩
  have hws := hw.2
  refine ⟨_, (pss_cons (ps_expr (C8.pe_c c_need_odds hr (by decide) (by rfl) (pa_cons (pv 0) (pa_cons (pv 1) (pa_cons (pv 2) pa_nil)))))
      (pss_cons (ps_asg (C8.pe_c c_words_by hr (by decide) (by rfl) (pa_cons (pv 0) (pa_cons (pv 1) (pa_cons (pv 2) pa_nil)))) (pg_tupK (K := K) (n := 2) rfl rfl (pgs_cons (pg_name (i := 3) sc_best_guess.nd rfl (by first | exact Or.inl rfl | exact Or.inr rfl)) (pgs_cons (pg_name (i := 4) sc_best_guess.nd rfl (by first | exact Or.inl rfl | exact Or.inr rfl)) pgs_nil))))
      (pss_cons (ps_asg (C8.pe_c c_greatest_of hr (by decide) (by rfl) (pa_cons (pv 3) pa_nil)) (pg_tupK (K := K) (n := 2) rfl rfl (pgs_cons (pg_name (i := 5) sc_best_guess.nd rfl (by first | exact Or.inl rfl | exact Or.inr rfl)) (pgs_cons (pg_name (i := 6) sc_best_guess.nd rfl (by first | exact Or.inl rfl | exact Or.inr rfl)) pgs_nil))))
      (pss_one (ps_ret (pe_tup (pa_cons (pv 5) (pa_cons (C8.pe_c c_fraction_of hr (by decide) (by rfl) (pa_cons (pv 6) (pa_cons (pv 4) pa_nil))) pa_nil)))))))), ?_⟩
  refine ⟨_, rfl, _, rfl, _, rfl, a, sa, b, W, r, ws, rfl, hW, ok, hR, hw, fun H1 x1 => ?_⟩
  refine ⟨_, rfl, _, rfl, _, rfl, a, sa, b, W, r, ws, rfl, hW.ex x1, ok, hR.ex x1, hw.ex x1, fun p wd H2 x2 hp hd => ?_⟩
  refine ⟨_, _, rfl, SqT.of hp, rfl, _, _, rfl, _, _, rfl, rfl, ?_⟩
  refine ⟨_, rfl, wd, M W ws r, rfl, hd, keysOf_M ok (fun c h => (hws c h).1) hR.2.2, fun q H3 x3 hq3 => ?_⟩
  refine ⟨_, _, rfl, SqT.of hq3, rfl, _, _, rfl, _, _, rfl, rfl, ?_⟩
  refine ⟨_, rfl, _, rfl, _, rfl, _, _, rfl, whole_pos' ok hws r, lt9000 (whole_lt ok hws hR.2.1), fun g H4 x4 hg => ?_⟩
  refine ⟨by show 2 ≤ sizeLine; decide, fun t nt => ?_⟩
  have x5 : Ex Z H4 (upd H4 t (.tup [.int (gw (M W ws r) : Nat), .ref g])) := Ex.new nt
  exact hq t _ ((((x1.trans x2).trans x3).trans x4).trans x5) ⟨g, upd_same, hg.ex x5⟩
def spWithItem (K : PySem.W.Frag) (Z : List (Addr × Str)) : Sp := fun vs H Q _ => ∃ s r p c, vs = [.ref s, .int (p : Nat), .int (c : Nat)] ∧ SqS K H s (rowV r) ∧ r.length ≤ 300 ∧ ∀ q H', Ex Z H H' → SqS K H' q (rowV (kn r p c)) → Q (.ref q) H'
theorem sc_with_item : FnScope ["shown", "place", "kind", "spot", "item"] ["shown", "place", "kind"] (defScope s_with_item) := ⟨rfl, rfl, rfl, by decide +kernel, rfl, by decide +kernel, by decide +kernel⟩
theorem kn_get (s : Od.Row) (p c i : Nat) {x : Option Nat} (h : s[i]? = some x) : (kn s p c)[i]? = some (if i = p then some c else x) := by
  unfold kn
  have hi := (List.getElem?_eq_some_iff.mp h).1
  rw [List.getElem?_set]
  by_cases e : p = i
  · rw [if_pos e, if_pos e.symm, if_pos (by omega)]
  · rw [if_neg e, if_neg (fun z => e z.symm), h]
theorem with_item_ok (T : Txt K mg C) (D : Df K mg "with_item" s_with_item []) : C8.Cal P w K mg base 1 "with_item" (spWithItem K Z) [] := by
  refine D.cal (k := 0) sc_with_item (by intro kV doc pm an cdv ct us h; match us, h with | [_, _, _], _ => rfl) (by rintro _ _ _ _ ⟨_, _, _, _, rfl, _⟩; rfl) ?_
  rintro f cdv A outer s H _ Q E hr ⟨sa, r, p, c, rfl, hs, hl, hq⟩
  refine ⟨_, (pss_one (ps_ret (pe_lc (own := [("spot", 3), ("item", 4)]) rfl sc_with_item.nd (pi_enumW (by rfl) T.enumerate (pa_cons (pv 0) pa_nil)) (blkOk_by (own := [("spot", 3), ("item", 4)]) (N := ["shown", "place", "kind", "spot", "item"]) (sc := defScope s_with_item) (by decide +kernel)) (fun _ _ _ _ _ => (pg_tupK (K := K) (n := 2) rfl rfl (pgs_cons (pg_name (i := 3) sc_with_item.nd rfl (by first | exact Or.inl rfl | exact Or.inr rfl)) (pgs_cons (pg_name (i := 4) sc_with_item.nd rfl (by first | exact Or.inl rfl | exact Or.inr rfl)) pgs_nil)))) (fun _ _ _ _ _ => pts_nil) (fun _ _ _ _ _ => (pe_ifExp (pt_cmpR op_eq (pv 3) (pv 1) (nomark _)) (pv 2) (pv 4)))))), ?_⟩
  refine ⟨_, rfl, _, _, rfl, hs, fun J G wk hG D hD => ?_⟩
  rw [rowV_len] at wk
  refine lcE (B := []) (Z := Z) wk hD (hG Z [] · (by simp)) (by omega) (fun i acc H => acc = rowV ((kn r p c).take i)) rfl (fun i acc x H3 H4 hi x3 ha hla hpi hy => ?_) fun acc H3 x3 ha hpi => ?_
  · obtain ⟨t, z1, z2, rfl, nt, rfl, hz1, hz2⟩ := hy
    obtain rfl := Option.some.inj hz1
    obtain ⟨y, hy, rfl⟩ := rowV_get hz2
    have hk := kn_get r p c i hy
    have fin : ∀ v, v = itemV (if i = p then some c else y) → acc ++ [v] = rowV ((kn r p c).take (i + 1)) := fun v hv => by
      rw [List.take_add_one, hk, hpi, hv]
      unfold rowV
      rw [List.map_append]
      rfl
    by_cases e : i = p
    · refine ⟨_, _, rfl, SqT.of upd_same, rfl, _, _, rfl, _, _, rfl, rfl, rfl, _, rfl, _, rfl, rfl, true, eqT (by rw [e]), _, rfl, LcP.put x3 hD ha (by simp) hla (by omega) (Exb.new nt) (fin _ ?_)⟩
      rw [if_pos e]
      rfl
    · refine ⟨_, _, rfl, SqT.of upd_same, rfl, _, _, rfl, _, _, rfl, rfl, rfl, _, rfl, _, rfl, rfl, false, eqF (fun z => e (by have := V.int.inj z; omega)), _, rfl, LcP.put x3 hD ha (by simp) hla (by omega) (Exb.new nt) (fin _ ?_)⟩
      rw [if_neg e]
  · rw [List.take_of_length_le (by rw [kn_len]; exact Nat.le_refl _)] at hpi
    subst hpi
    exact hq D H3 x3 (.inl (SqL.of ha))
end
end K62
/-! ==== B62n ==== -/
namespace K62
open PySem PySem.Spec PyProof.Rows L2 Fx Od
section
variable {P : Program} {w : World} {K : PySem.W.Frag} {mg : Str → Option Value} {base : Heap} {C : Addr} {Z : List (Addr × Str)}
def spGuessed (K : PySem.W.Frag) (Z : List (Addr × Str)) (C : Addr) : Sp := fun vs H Q _ => ∃ a s b W r ws p, vs = [.ref a, .ref s, .ref b, .int (p : Nat)] ∧ WatchAt K C H a W ∧ W.Ok ∧ RowAt K H s W r ∧ WsAt K H b W.k ws ∧ ∀ q H', Ex Z H H' → FracAt H' q (guessF W ws r p) → Q (.ref q) H'
theorem sc_guessed_by : FnScope ["watch", "shown", "weights", "place", "top", "whole", "kind", "weight", "words"] ["watch", "shown", "weights", "place"] (defScope s_guessed_by) := ⟨rfl, rfl, rfl, by decide +kernel, rfl, by decide +kernel, by decide +kernel⟩
theorem guess_lt {W : Wt} (ok : W.Ok) {ws : Nat → Nat} (h : ∀ c < W.k, 1 ≤ ws c ∧ ws c ≤ 1000000) {r : Od.Row} (hr : r.length ≤ 300) (p : Nat) : whole ws W.k (kn r p 0) * Od.sumTo ws W.k < 2 ^ 6623 := by
  have h1 := whole_lt ok h (s := kn r p 0) (by rw [kn_len]; exact hr)
  have h2 := sumTo_lt ok h
  rw [show 6623 = 6601 + 22 from rfl, Nat.pow_add]
  exact Nat.mul_lt_mul'' h1 h2
theorem gtop_lt {W : Wt} (ok : W.Ok) {ws : Nat → Nat} (h : ∀ c < W.k, 1 ≤ ws c ∧ ws c ≤ 1000000) {r : Od.Row} (hr : r.length ≤ 300) (p : Nat) : gtop W ws r p W.k < 2 ^ 6623 := by
  refine Nat.lt_of_le_of_lt (gtop_le ok r p) ?_
  rw [Nat.mul_comm]
  exact guess_lt ok h hr p
theorem guessed_ok (T : Txt K mg C) (D : Df K mg "guessed_by" s_guessed_by []) (c_words_by : C8.Cal P w K mg base 5 "words_by" (spWordsBy K Z C) []) (c_with_item : C8.Cal P w K mg base 1 "with_item" (spWithItem K Z) []) (c_greatest_of : C8.Cal P w K mg base 1 "greatest_of" (spGreatest Z) []) (c_fraction_of : C8.Cal P w K mg base 2 "fraction_of" (spFraction Z) []) : C8.Cal P w K mg base 6 "guessed_by" (spGuessed K Z C) [] := by
  refine D.cal (k := 5) sc_guessed_by (by intro kV doc pm an cdv ct us h; match us, h with | [_, _, _, _], _ => rfl) (by rintro _ _ _ _ ⟨_, _, _, _, _, _, _, rfl, _⟩; rfl) ?_
  rintro f cdv A outer s H _ Q E hr ⟨a, sa, b, W, r, ws, p, rfl, hW, ok, hR, hw, hq⟩
  have hws := hw.2
  have hw0 : ∀ c < W.k, 0 < ws c := fun c h => (hws c h).1
  refine ⟨_, (pss_cons (ps_asg (pe_tup (pa_cons pe_int (pa_cons pe_int pa_nil))) (pg_tupK (K := K) (n := 2) rfl rfl (pgs_cons (pg_name (i := 4) sc_guessed_by.nd rfl (by first | exact Or.inl rfl | exact Or.inr rfl)) (pgs_cons (pg_name (i := 5) sc_guessed_by.nd rfl (by first | exact Or.inl rfl | exact Or.inr rfl)) pgs_nil))))
      (pss_cons (ps_for PassesOwn.never rfl (pi_enumW (by rfl) T.enumerate (pa_cons (pv 2) pa_nil)) (pg_tupK (K := K) (n := 2) rfl rfl (pgs_cons (pg_name (i := 6) sc_guessed_by.nd rfl (by first | exact Or.inl rfl | exact Or.inr rfl)) (pgs_cons (pg_name (i := 7) sc_guessed_by.nd rfl (by first | exact Or.inl rfl | exact Or.inr rfl)) pgs_nil)))
      (pss_cons (ps_asg (C8.pe_c c_words_by hr (by decide) (by rfl) (pa_cons (pv 0) (pa_cons (C8.pe_c c_with_item hr (by decide) (by rfl) (pa_cons (pv 1) (pa_cons (pv 3) (pa_cons (pv 6) pa_nil)))) (pa_cons (pv 2) pa_nil)))) (pg_tupK (K := K) (n := 2) rfl rfl (pgs_cons (pg_name (i := 8) sc_guessed_by.nd rfl (by first | exact Or.inl rfl | exact Or.inr rfl)) (pgs_cons (pg_name (i := 5) sc_guessed_by.nd rfl (by first | exact Or.inl rfl | exact Or.inr rfl)) pgs_nil))))
      (pss_one (ps_aug (i := 4) sc_guessed_by.nd rfl (by first | exact Or.inl rfl | exact Or.inr rfl) (pe_op op_mulW (pv 7) (pe_ix (ixtK (K := K) rfl) (C8.pe_c c_greatest_of hr (by decide) (by rfl) (pa_cons (pv 8) pa_nil)) pe_int (fun _ _ => rfl))) ip_add))))
      (pss_one (ps_ret (C8.pe_c c_fraction_of hr (by decide) (by rfl) (pa_cons (pv 4) (pa_cons (pe_op op_mulW (pv 5) (pe_callB (sumK (K := K) rfl rfl) (by rfl) T.sum bt_sum (pa_cons (pv 2) pa_nil))) pa_nil))))))), ?_⟩
  refine ⟨by show 2 ≤ sizeLine; decide, fun tq ntq => ⟨_, _, rfl, SqT.of upd_same, rfl, _, _, rfl, _, _, rfl, rfl, ?_⟩⟩
  have x0 : Ex Z H (upd H tq (.tup [.int 0, .int 1])) := Ex.new ntq
  generalize upd H tq (.tup [.int 0, .int 1]) = H0 at x0
  refine ⟨_, rfl, _, _, rfl, x0.sqS hw.1, fun J G wk hG => ?_⟩
  rw [lineV_len] at wk
  refine for_it wk (fun c σ H' => ∃ wh u6 u7 u8, σ = [some (.ref a), some (.ref sa), some (.ref b), some (.int (p : Nat)), some (.int (gtop W ws r p c : Nat)), some (.int (wh : Nat)), u6, u7, u8] ∧ (c = 0 ∨ wh = whole ws W.k (kn r p 0)) ∧ Ex Z H0 H') ⟨1, _, _, _, rfl, .inl rfl, Exb.refl _⟩ (fun c σ H' _ ⟨_, _, _, _, _, _, x⟩ => hG Z [] H' (by simp) x) (fun c x σ H1 H2 hc ⟨wh, u6, u7, u8, hσ, _, x01⟩ hy => ?_) fun σ H1 ⟨wh, u6, u7, u8, hσ, hwh, x01⟩ => ?_
  · subst hσ
    have x1 := x0.trans x01
    obtain ⟨t, z1, z2, rfl, nt, rfl, hz1, hz2⟩ := hy
    obtain rfl := Option.some.inj hz1
    obtain ⟨hck, rfl⟩ := lineV_get hz2
    refine ⟨_, _, rfl, SqT.of upd_same, rfl, _, _, rfl, _, _, rfl, rfl, ?_⟩
    have x12 : Ex Z H1 (upd H1 t (.tup [.int (c : Nat), .int (ws c : Nat)])) := Ex.new nt
    generalize upd H1 t (.tup [.int (c : Nat), .int (ws c : Nat)]) = H2 at x12
    have x2 := x1.trans x12
    refine ⟨_, rfl, _, rfl, _, rfl, _, rfl, sa, r, p, c, rfl, x2.sqS hR.1, hR.2.1, fun q H3 x3 hq3 => ?_⟩
    have x23 := x2.trans x3
    refine ⟨_, rfl, a, q, b, W, kn r p c, ws, rfl, hW.ex x23, ok, ⟨hq3, by rw [kn_len]; exact hR.2.1, kn_ok hR.2.2 hck⟩, hw.ex x23, fun g wd H4 x4 hg hd => ?_⟩
    refine ⟨_, _, rfl, SqT.of hg, rfl, _, _, rfl, _, _, rfl, rfl, ?_⟩
    refine ⟨_, rfl, _, rfl, _, rfl, wd, M W ws (kn r p c), rfl, hd, keysOf_M ok hw0 (kn_ok hR.2.2 hck), fun q5 H5 x5 hq5 => ?_⟩
    refine ⟨_, _, ((1 : Nat) : Int), .int (gm (M W ws (kn r p c)) : Nat), rfl, rfl, SqT.of hq5, atI_nat rfl, ?_⟩
    have hmul : ((ws c : Nat) : Int) * ((gm (M W ws (kn r p c)) : Nat) : Int) = ((ws c * gm (M W ws (kn r p c)) : Nat) : Int) := by rw [← Int.natCast_mul]
    refine ⟨_, _, rfl, rfl, wide_mul (a := 20) (b := 6601) ?_ ?_ (by decide) (by decide) (by decide), _, _, rfl, rfl, ?_⟩
    · rw [Int.natAbs_natCast]
      have := (hws c hck).2
      omega
    · rw [Int.natAbs_natCast]
      exact Nat.lt_of_le_of_lt (gm_le ok _) (whole_lt ok hws (by rw [kn_len]; exact hR.2.1))
    · refine ⟨whole ws W.k (kn r p c), some (.int (c : Nat)), some (.int (ws c : Nat)), some (.ref wd), ?_, .inr (whole_kn W.k r p c 0), (((x01.trans x12).trans x3).trans x4).trans x5⟩
      show [_, _, _, _, some (V.int (((gtop W ws r p c : Nat) : Int) + ((ws c : Nat) : Int) * ((gm (M W ws (kn r p c)) : Nat) : Int))), _, _, _, _] = _
      rw [hmul, ← Int.natCast_add]
      unfold gtop
      rw [sumTo_succ]
  · subst hσ
    have x1 := x0.trans x01
    have k1 := ok.k1
    have hwh2 : wh = whole ws W.k (kn r p 0) := hwh.elim (fun z => absurd z (by omega)) id
    subst hwh2
    have hmul : ((whole ws W.k (kn r p 0) : Nat) : Int) * ((Od.sumTo ws W.k : Nat) : Int) = ((whole ws W.k (kn r p 0) * Od.sumTo ws W.k : Nat) : Int) := by rw [← Int.natCast_mul]
    refine ⟨_, rfl, _, rfl, _, rfl, b, (List.range W.k).map fun c => ((ws c : Nat) : Int), rfl, by rw [← lineV_ints]; exact x1.sqS hw.1, ?_⟩
    rw [sumTo_cast]
    refine ⟨_, _, rfl, rfl, wide_mul (a := 6601) (b := 22) ?_ ?_ (by decide) (by decide) (by decide), gtop W ws r p W.k, whole ws W.k (kn r p 0) * Od.sumTo ws W.k, ?_, Nat.mul_pos (whole_pos' ok hws _) (sumTo_pos ok.k1 hw0), ?_, fun q H2 x2 hq2 => hq q H2 (x1.trans x2) hq2⟩
    · rw [Int.natAbs_natCast]
      exact whole_lt ok hws (by rw [kn_len]; exact hR.2.1)
    · rw [Int.natAbs_natCast]
      exact sumTo_lt ok hws
    · show [V.int _, V.int (((whole ws W.k (kn r p 0) : Nat) : Int) * ((Od.sumTo ws W.k : Nat) : Int))] = _
      rw [hmul]
    · exact Nat.lt_of_lt_of_le (guess_lt ok hws hR.2.1 p) (Nat.pow_le_pow_right (by decide) (by decide))
def spAbove : Sp := fun vs H Q _ => ∃ p q f g, vs = [.ref p, .ref q] ∧ FracAt H p f ∧ FracAt H q g ∧ f.1 < 2 ^ 9000 ∧ f.2 < 2 ^ 9000 ∧ g.1 < 2 ^ 9000 ∧ g.2 < 2 ^ 9000 ∧ Q (.bl (above f g)) H
theorem sc_is_above : FnScope ["one", "other"] ["one", "other"] (defScope s_is_above) := ⟨rfl, rfl, rfl, by decide +kernel, rfl, by decide +kernel, by decide +kernel⟩
theorem above_ok (T : Txt K mg C) (D : Df K mg "is_above" s_is_above []) : C8.Cal P w K mg base 1 "is_above" spAbove [] := by
  refine D.cal (k := 0) sc_is_above (by intro kV doc pm an cdv ct us h; match us, h with | [_, _], _ => rfl) (by rintro _ _ _ _ ⟨_, _, _, _, rfl, _⟩; rfl) ?_
  rintro f cdv A outer s H _ Q E hr ⟨p, q, fr, g, rfl, hp, hg, b1, b2, b3, b4, hq⟩
  refine ⟨_, (pss_one (ps_ret (pe_cmpR op_gt (pe_op op_mulW (pe_ix (ixtK (K := K) rfl) (pv 0) pe_int (fun _ _ => rfl)) (pe_ix (ixtK (K := K) rfl) (pv 1) pe_int (fun _ _ => rfl))) (pe_op op_mulW (pe_ix (ixtK (K := K) rfl) (pv 1) pe_int (fun _ _ => rfl)) (pe_ix (ixtK (K := K) rfl) (pv 0) pe_int (fun _ _ => rfl))) (nomark _)))), ?_⟩
  have e : decide (((g.1 : Nat) : Int) * ((fr.2 : Nat) : Int) < ((fr.1 : Nat) : Int) * ((g.2 : Nat) : Int)) = above fr g := by
    unfold above
    rw [← Int.natCast_mul, ← Int.natCast_mul]
    exact decide_eq_decide.mpr Int.ofNat_lt
  refine ⟨_, rfl, _, _, ((0 : Nat) : Int), .int (fr.1 : Nat), rfl, rfl, SqT.of hp, atI_nat rfl, ?_⟩
  refine ⟨_, rfl, _, _, ((1 : Nat) : Int), .int (g.2 : Nat), rfl, rfl, SqT.of hg, atI_nat rfl, ?_⟩
  refine ⟨_, _, rfl, rfl, wide_mul (a := 9000) (b := 9000) (by rw [Int.natAbs_natCast]; exact b1) (by rw [Int.natAbs_natCast]; exact b4) (by decide) (by decide) (by decide), ?_⟩
  refine ⟨_, rfl, _, _, ((0 : Nat) : Int), .int (g.1 : Nat), rfl, rfl, SqT.of hg, atI_nat rfl, ?_⟩
  refine ⟨_, rfl, _, _, ((1 : Nat) : Int), .int (fr.2 : Nat), rfl, rfl, SqT.of hp, atI_nat rfl, ?_⟩
  refine ⟨_, _, rfl, rfl, wide_mul (a := 9000) (b := 9000) (by rw [Int.natAbs_natCast]; exact b3) (by rw [Int.natAbs_natCast]; exact b2) (by decide) (by decide) (by decide), ?_⟩
  refine ⟨_, _, rfl, rfl, ?_⟩
  show Q (.bl (decide (((g.1 : Nat) : Int) * ((fr.2 : Nat) : Int) < ((fr.1 : Nat) : Int) * ((g.2 : Nat) : Int)))) H
  rw [e]
  exact hq
/-- the most telling place, or None -/
def MtAt (H : Hp) (v : V) : Option (Nat × (Nat × Nat)) → Prop
  | none => v = .non
  | some e => ∃ p, v = .ref p ∧ BgAt H p e
theorem MtAt.ex {H H' : Hp} {v : V} {e : Option (Nat × (Nat × Nat))} (x : Ex Z H H') (h : MtAt H v e) : MtAt H' v e := by
  cases e with
  | none => exact h
  | some e =>
    obtain ⟨p, h1, h2⟩ := h
    exact ⟨p, h1, h2.ex x⟩
def spTelling (K : PySem.W.Frag) (Z : List (Addr × Str)) (C : Addr) : Sp := fun vs H Q _ => ∃ a s b W r ws, vs = [.ref a, .ref s, .ref b] ∧ WatchAt K C H a W ∧ W.Ok ∧ RowAt K H s W r ∧ WsAt K H b W.k ws ∧ ∀ v H', Ex Z H H' → MtAt H' v (mt W ws r r.length) → Q v H'
theorem mt_bound {W : Wt} (ok : W.Ok) {ws : Nat → Nat} (h : ∀ c < W.k, 1 ≤ ws c ∧ ws c ≤ 1000000) {r : Od.Row} (hr : r.length ≤ 300) : ∀ n e, mt W ws r n = some e → e.2.1 < 2 ^ 9000 ∧ e.2.2 < 2 ^ 9000 := by
  have hb : ∀ p, (guessF W ws r p).1 < 2 ^ 9000 ∧ (guessF W ws r p).2 < 2 ^ 9000 := fun p => by
    have le : (2 : Nat) ^ 6623 ≤ 2 ^ 9000 := Nat.pow_le_pow_right (by decide) (by decide)
    exact ⟨Nat.lt_of_le_of_lt (frac_le1 _ _) (Nat.lt_of_lt_of_le (gtop_lt ok h hr p) le), Nat.lt_of_le_of_lt (frac_le2 _ _) (Nat.lt_of_lt_of_le (guess_lt ok h hr p) le)⟩
  intro n
  induction n with
  | zero => intro e he; cases he
  | succ n ih =>
    intro e he
    rw [mt_succ] at he
    unfold mtStep at he
    split at he
    · split at he
      · rw [← Option.some.inj he]
        exact hb n
      · rename_i q f0 hq
        split at he
        · rw [← Option.some.inj he]
          exact hb n
        · rw [← Option.some.inj he]
          exact ih _ hq
    · exact ih _ he
theorem sc_most_telling : FnScope ["watch", "shown", "weights", "found", "place", "item", "share"] ["watch", "shown", "weights"] (defScope s_most_telling) := ⟨rfl, rfl, rfl, by decide +kernel, rfl, by decide +kernel, by decide +kernel⟩
theorem telling_ok (T : Txt K mg C) (D : Df K mg "most_telling" s_most_telling []) (c_need_odds : C8.Cal P w K mg base 4 "need_odds" (spNeedOdds K Z C) []) (c_guessed_by : C8.Cal P w K mg base 6 "guessed_by" (spGuessed K Z C) []) (c_is_above : C8.Cal P w K mg base 1 "is_above" spAbove []) : C8.Cal P w K mg base 7 "most_telling" (spTelling K Z C) [] := by
  refine D.cal (k := 6) sc_most_telling (by intro kV doc pm an cdv ct us h; match us, h with | [_, _, _], _ => rfl) (by rintro _ _ _ _ ⟨_, _, _, _, _, _, rfl, _⟩; rfl) ?_
  rintro f cdv A outer s H _ Q E hr ⟨a, sa, b, W, r, ws, rfl, hW, ok, hR, hw, hq⟩
  have hws := hw.2
  refine ⟨_, (pss_cons (ps_expr (C8.pe_c c_need_odds hr (by decide) (by rfl) (pa_cons (pv 0) (pa_cons (pv 1) (pa_cons (pv 2) pa_nil)))))
      (pss_cons (ps_set (i := 3) sc_most_telling.nd rfl (by first | exact Or.inl rfl | exact Or.inr rfl) pe_non)
      (pss_cons (ps_for PassesOwn.never rfl (pi_enumW (by rfl) T.enumerate (pa_cons (pv 1) pa_nil)) (pg_tupK (K := K) (n := 2) rfl rfl (pgs_cons (pg_name (i := 4) sc_most_telling.nd rfl (by first | exact Or.inl rfl | exact Or.inr rfl)) (pgs_cons (pg_name (i := 5) sc_most_telling.nd rfl (by first | exact Or.inl rfl | exact Or.inr rfl)) pgs_nil)))
      (pss_one (ps_if (pt_cmpR op_isN (pv 5) pe_non (nomark _)) (pss_cons (ps_set (i := 6) sc_most_telling.nd rfl (by first | exact Or.inl rfl | exact Or.inr rfl) (C8.pe_c c_guessed_by hr (by decide) (by rfl) (pa_cons (pv 0) (pa_cons (pv 1) (pa_cons (pv 2) (pa_cons (pv 4) pa_nil))))))
      (pss_one (ps_if (PW.pt (pw_or (pt_cmpR op_isN (pv 3) pe_non (nomark _)) (pw_or1 (pt_val (C8.pe_c c_is_above hr (by decide) (by rfl) (pa_cons (pv 6) (pa_cons (pe_ix (ixtK (K := K) rfl) (pv 3) pe_int (fun _ _ => rfl)) pa_nil))))))) (pss_one (ps_set (i := 3) sc_most_telling.nd rfl (by first | exact Or.inl rfl | exact Or.inr rfl) (pe_tup (pa_cons (pv 4) (pa_cons (pv 6) pa_nil))))) pss_nil))) pss_nil)))
      (pss_one (ps_ret (pv 3)))))), ?_⟩
  refine ⟨_, rfl, _, rfl, _, rfl, a, sa, b, W, r, ws, rfl, hW, ok, hR, hw, fun H1 x1 => ?_⟩
  refine ⟨_, rfl, _, _, rfl, x1.sqS hR.1, fun J G wk hG => ?_⟩
  rw [rowV_len] at wk
  refine for_it wk (fun i σ H' => ∃ v u4 u5 u6, σ = [some (.ref a), some (.ref sa), some (.ref b), some v, u4, u5, u6] ∧ Ex Z H1 H' ∧ MtAt H' v (mt W ws r i)) ⟨.non, _, _, _, rfl, Exb.refl _, rfl⟩ (fun i σ H' _ ⟨_, _, _, _, _, x, _⟩ => hG Z [] H' (by simp) x) (fun i x σ H2 H3 hi ⟨v, u4, u5, u6, hσ, x2, hm⟩ hy => ?_) fun σ H2 ⟨v, u4, u5, u6, hσ, x2, hm⟩ => ?_
  · subst hσ
    obtain ⟨t, z1, z2, rfl, nt, rfl, hz1, hz2⟩ := hy
    obtain rfl := Option.some.inj hz1
    obtain ⟨c, hc, rfl⟩ := rowV_get hz2
    refine ⟨_, _, rfl, SqT.of upd_same, rfl, _, _, rfl, _, _, rfl, rfl, ?_⟩
    have x3 : Ex Z H2 (upd H2 t (.tup [.int (i : Nat), itemV c])) := Ex.new nt
    generalize upd H2 t (.tup [.int (i : Nat), itemV c]) = H3 at x3
    have hm3 := hm.ex x3
    cases c with
    | some c =>
      refine ⟨_, rfl, rfl, false, rfl, ?_⟩
      refine ⟨v, _, _, _, rfl, x2.trans x3, ?_⟩
      rw [mt_succ]
      unfold mtStep
      rw [if_neg (by rw [hc]; simp)]
      exact hm3
    | none =>
      refine ⟨_, rfl, rfl, true, rfl, ?_⟩
      have x13 := (x1.trans x2).trans x3
      refine ⟨_, rfl, _, rfl, _, rfl, _, rfl, a, sa, b, W, r, ws, i, rfl, hW.ex x13, ok, hR.ex x13, hw.ex x13, fun q H4 x4 hq4 => ?_⟩
      have hm4 := hm3.ex x4
      have x24 := (x2.trans x3).trans x4
      have take : ∀ p H5, Ex Z H4 H5 → BgAt H5 p (i, guessF W ws r i) → mt W ws r (i + 1) = some (i, guessF W ws r i) → MtAt H5 (.ref p) (mt W ws r (i + 1)) := fun p H5 x5 h5 e => by
        rw [e]
        exact ⟨p, rfl, h5⟩
      cases hmt : mt W ws r i with
      | none =>
        rw [hmt] at hm4
        obtain rfl : v = .non := hm4
        refine ⟨_, rfl, rfl, true, rfl, ?_⟩
        refine ⟨_, rfl, _, rfl, by show 2 ≤ sizeLine; decide, fun p np => ?_⟩
        have x5 : Ex Z H4 (upd H4 p (.tup [.int (i : Nat), .ref q])) := Ex.new np
        refine ⟨.ref p, _, _, _, rfl, x24.trans x5, take p _ x5 ⟨q, upd_same, hq4.ex x5⟩ ?_⟩
        rw [mt_succ, hmt]
        unfold mtStep
        rw [if_pos hc]
      | some e =>
        rw [hmt] at hm4
        obtain ⟨pv, rfl, fa, hpv, hfa⟩ := hm4
        have be := mt_bound ok hws hR.2.1 i e hmt
        have le : (2 : Nat) ^ 6623 ≤ 2 ^ 9000 := Nat.pow_le_pow_right (by decide) (by decide)
        have bg1 := Nat.lt_of_le_of_lt (frac_le1 (gtop W ws r i W.k) (whole ws W.k (kn r i 0) * Od.sumTo ws W.k)) (Nat.lt_of_lt_of_le (gtop_lt ok hws hR.2.1 i) le)
        have bg2 := Nat.lt_of_le_of_lt (frac_le2 (gtop W ws r i W.k) (whole ws W.k (kn r i 0) * Od.sumTo ws W.k)) (Nat.lt_of_lt_of_le (guess_lt ok hws hR.2.1 i) le)
        refine ⟨_, rfl, rfl, false, rfl, ?_⟩
        refine ⟨_, rfl, _, rfl, _, _, ((1 : Nat) : Int), .ref fa, rfl, rfl, SqT.of hpv, atI_nat rfl, ?_⟩
        cases hab : above (guessF W ws r i) e.2 with
        | true =>
          refine ⟨q, fa, guessF W ws r i, e.2, rfl, hq4, hfa, bg1, bg2, be.1, be.2, true, by rw [hab], ?_⟩
          refine ⟨_, rfl, _, rfl, by show 2 ≤ sizeLine; decide, fun p np => ?_⟩
          have x5 : Ex Z H4 (upd H4 p (.tup [.int (i : Nat), .ref q])) := Ex.new np
          refine ⟨.ref p, _, _, _, rfl, x24.trans x5, take p _ x5 ⟨q, upd_same, hq4.ex x5⟩ ?_⟩
          rw [mt_succ, hmt]
          unfold mtStep
          rw [if_pos hc]
          exact if_pos hab
        | false =>
          refine ⟨q, fa, guessF W ws r i, e.2, rfl, hq4, hfa, bg1, bg2, be.1, be.2, false, by rw [hab], ?_⟩
          refine ⟨.ref pv, _, _, _, rfl, x24, ?_⟩
          have : mt W ws r (i + 1) = some e := by
            rw [mt_succ, hmt]
            unfold mtStep
            rw [if_pos hc]
            exact if_neg (by rw [hab]; decide)
          rw [this]
          exact ⟨pv, rfl, fa, hpv, hfa⟩
  · subst hσ
    exact ⟨_, rfl, hq v H2 (x1.trans x2) hm⟩
end
end K62
/-! ==== B62o ==== -/
namespace K62
open PySem PySem.Spec PyProof.Rows L2 Fx Od
section
variable {P : Program} {w : World} {K : PySem.W.Frag} {mg : Str → Option Value} {base : Heap} {C : Addr} {Z : List (Addr × Str)}
/-! ### the tape -/
def tpD (al : Addr) (r : Int) (cl : Addr) (t : Int) : List (Key × V) := [(Sum.inr "large", .ref al), (Sum.inr "rest", .int r), (Sum.inr "cells", .ref cl), (Sum.inr "turn", .int t)]
theorem tpD_large (al : Addr) (r : Int) (cl : Addr) (t : Int) : valV (tpD al r cl t) (Sum.inr "large") = some (.ref al) := by rfl
theorem tpD_rest (al : Addr) (r : Int) (cl : Addr) (t : Int) : valV (tpD al r cl t) (Sum.inr "rest") = some (.int r) := by rfl
theorem tpD_cells (al : Addr) (r : Int) (cl : Addr) (t : Int) : valV (tpD al r cl t) (Sum.inr "cells") = some (.ref cl) := by rfl
theorem tpD_turn (al : Addr) (r : Int) (cl : Addr) (t : Int) : valV (tpD al r cl t) (Sum.inr "turn") = some (.int t) := by rfl
theorem put_rest (al : Addr) (r : Int) (cl : Addr) (t x : Int) : putK (tpD al r cl t) (Sum.inr "rest") (.int x) = tpD al x cl t := by rfl
theorem put_turn (al : Addr) (r : Int) (cl : Addr) (t x : Int) : putK (tpD al r cl t) (Sum.inr "turn") (.int x) = tpD al r cl x := by rfl
def TapeAt (H : Hp) (tp al cl : Addr) : Prop := ∃ (r t : Int) (large cells : List Int), H tp = some (.dK (tpD al r cl t)) ∧ H al = some (.lst (large.map V.int)) ∧ H cl = some (.lst (cells.map V.int)) ∧ cl ≠ al
theorem TapeAt.ex {H H' : Hp} {tp al cl : Addr} (x : Ex Z H H') (h : TapeAt H tp al cl) : TapeAt H' tp al cl := by
  obtain ⟨r, t, large, cells, h1, h2, h3, h4⟩ := h
  exact ⟨r, t, large, cells, x.dk h1, x.lst h2, x.lst h3, h4⟩
theorem TapeAt.put {H : Hp} {tp al cl D : Addr} {o : HO} (h : TapeAt H tp al cl) (n1 : D ≠ tp) (n2 : D ≠ al) (n3 : D ≠ cl) : TapeAt (upd H D o) tp al cl := by
  obtain ⟨r, t, large, cells, h1, h2, h3, h4⟩ := h
  exact ⟨r, t, large, cells, by rw [upd_ne n1.symm]; exact h1, by rw [upd_ne n2.symm]; exact h2, by rw [upd_ne n3.symm]; exact h3, h4⟩
theorem TapeAt.new {H : Hp} {tp al cl D : Addr} (h : TapeAt H tp al cl) (hD : H D = none) : D ≠ tp ∧ D ≠ al ∧ D ≠ cl := by
  obtain ⟨r, t, large, cells, h1, h2, h3, h4⟩ := h
  exact ⟨fun z => (by rw [z, h1] at hD; cases hD), fun z => (by rw [z, h2] at hD; cases hD), fun z => (by rw [z, h3] at hD; cases hD)⟩
theorem dget_at {H : Hp} {d : Addr} {kvs : List (Key × V)} {x : Str} {v : V} (h : H d = some (.dK kvs)) (e : valV kvs (Sum.inr x) = some v) : DGet H d (.str x) (some v) := by
  rw [← e]
  exact DGet.k (k := Sum.inr x) h
theorem dput_at {H : Hp} {d : Addr} {kvs kvs' : List (Key × V)} {x : Str} {v : V} (h : H d = some (.dK kvs)) (hl : kvs.length < sizeLine) (e : putK kvs (Sum.inr x) v = kvs') : DPut H d (.str x) v (upd H d (.dK kvs')) := by
  rw [← e]
  exact DPut.k (k := Sum.inr x) h hl
def spBlend (Z : List (Addr × Str)) : Sp := fun vs H Q _ => ∃ tp al cl, vs = [.ref tp] ∧ TapeAt H tp al cl ∧ ∀ (x : Int) H', Exb Z [tp] H H' → TapeAt H' tp al cl → Q (.int x) H'
theorem sc_law_blend : FnScope ["tape", "turn", "found", "great", "blended", "grain"] ["tape"] (defScope s_law_blend) := ⟨rfl, rfl, rfl, by decide +kernel, rfl, by decide +kernel, by decide +kernel⟩
theorem blend_ok (T : Txt K mg C) (D : Df K mg "_law_blend" s_law_blend []) : C8.Cal P w K mg base 1 "_law_blend" (spBlend Z) [] := by
  refine D.cal (k := 0) sc_law_blend (by intro kV doc pm an cdv ct us h; match us, h with | [_], _ => rfl) (by rintro _ _ _ _ ⟨_, _, _, rfl, _⟩; rfl) ?_
  rintro f cdv A outer s H _ Q E hr ⟨tp, al, cl, rfl, ⟨r, t, large, cells, h1, h2, h3, h4⟩, hq⟩
  have hu := hu_of hr
  refine ⟨_, (pss_cons (ps_dput hu (pv 0) pe_str (pe_op op_add (pe_dget hu (pv 0) pe_str (fun _ _ => rfl)) pe_int) rfl)
      (pss_cons (ps_par rfl sc_law_blend.nd (i := 1) (j := 2) rfl rfl (by decide) rfl rfl (pa_cons (pe_callTy call_int1 (by rfl) T.int bt_int (pa_cons (pe_dget hu (pv 0) pe_str (fun _ _ => rfl)) pa_nil)) (pa_cons pe_int pa_nil)) (by rfl))
      (pss_cons (ps_for PassesOwn.never rfl (pi_seqK (K := K) rfl (pe_lst (pa_cons pe_int (pa_cons pe_int (pa_cons pe_int pa_nil))))) (pg_name (i := 3) sc_law_blend.nd rfl (by first | exact Or.inl rfl | exact Or.inr rfl))
      (pss_cons (ps_set (i := 4) sc_law_blend.nd rfl (by first | exact Or.inl rfl | exact Or.inr rfl) (pe_op op_mod (pe_op op_add (pe_op op_mul (pv 1) pe_int) (pe_op op_fdivW (pv 3) pe_int)) (pv 3)))
      (pss_cons (ps_for PassesOwn.never rfl (pi_seqK (K := K) rfl (pe_dget hu (pv 0) pe_str (fun _ _ => rfl))) (pg_name (i := 5) sc_law_blend.nd rfl (by first | exact Or.inl rfl | exact Or.inr rfl))
      (pss_one (ps_set (i := 4) sc_law_blend.nd rfl (by first | exact Or.inl rfl | exact Or.inr rfl) (pe_op op_mod (pe_op op_add (pe_op op_mul (pv 4) pe_int) (pe_callTy call_int1 (by rfl) T.int bt_int (pa_cons (pv 5) pa_nil))) (pv 3)))))
      (pss_one (ps_set (i := 2) sc_law_blend.nd rfl (by first | exact Or.inl rfl | exact Or.inr rfl) (pe_op op_add (pe_op op_mul (pv 2) pe_int) (pe_op op_mod (pe_op op_pow (pv 4) pe_int) (pv 3))))))))
      (pss_one (ps_ret (pv 2)))))), ?_⟩
  refine ⟨_, rfl, tp, _, rfl, dget_at h1 (tpD_turn ..), _, _, rfl, rfl, _, rfl, tp, _, rfl, dput_at h1 (by show 4 < sizeLine; decide) (put_turn ..), ?_⟩
  have x1 : Exb Z [tp] H (upd H tp (.dK (tpD al r cl (t + 1)))) := (Exb.refl _).mut (.inl (by simp)) (Mb.of h1 trivial)
  have ntl : tp ≠ al := fun z => by rw [z, h2] at h1; cases h1
  have ntc : tp ≠ cl := fun z => by rw [z, h3] at h1; cases h1
  have g1 : upd H tp (.dK (tpD al r cl (t + 1))) tp = some (.dK (tpD al r cl (t + 1))) := upd_same
  have g2 : upd H tp (.dK (tpD al r cl (t + 1))) al = some (.lst (large.map V.int)) := by rw [upd_ne ntl.symm]; exact h2
  have g3 : upd H tp (.dK (tpD al r cl (t + 1))) cl = some (.lst (cells.map V.int)) := by rw [upd_ne ntc.symm]; exact h3
  generalize upd H tp (.dK (tpD al r cl (t + 1))) = H1 at x1 g1 g2 g3
  refine ⟨_, rfl, tp, _, rfl, dget_at g1 (tpD_turn ..), .inl ⟨_, rfl, _, _, rfl, ?_⟩⟩
  refine ⟨by show 3 ≤ sizeLine; decide, fun gl ngl => ⟨gl, _, rfl, .inl (SqL.of upd_same), fun J G wk hG => ?_⟩⟩
  have x2 : Ex Z H1 (upd H1 gl (.lst [.int 2147483629, .int 2147483587, .int 2147483579])) := Ex.new ngl
  generalize upd H1 gl (.lst [.int 2147483629, .int 2147483587, .int 2147483579]) = H2 at x2 hG
  refine for_it wk (fun i σ H' => ∃ u3 u4 u5 x, σ = [some (.ref tp), some (.int (t + 1)), some (.int x), u3, u4, u5] ∧ Ex Z H2 H') ⟨_, _, _, 0, rfl, Exb.refl _⟩ (fun i σ H' _ ⟨_, _, _, _, _, x⟩ => hG Z [] H' (by simp) x) (fun i v σ H3 H4 hi ⟨u3, u4, u5, x, hσ, x3⟩ hy => ?_) fun σ H3 ⟨u3, u4, u5, x, hσ, x3⟩ => ?_
  · subst hσ
    obtain ⟨rfl, hx⟩ := hy
    obtain ⟨g, rfl, g0, g31⟩ : ∃ g : Int, v = .int g ∧ 0 < g ∧ g < 2147483648 := by
      have hi3 : i < 3 := hi
      match i, hi3, hx with
      | 0, _, hx => exact ⟨_, (Option.some.inj hx).symm, by decide, by decide⟩
      | 1, _, hx => exact ⟨_, (Option.some.inj hx).symm, by decide, by decide⟩
      | 2, _, hx => exact ⟨_, (Option.some.inj hx).symm, by decide, by decide⟩
    refine ⟨_, rfl, _, _, rfl, rfl, .inr ⟨by decide, by decide⟩, _, rfl, _, _, rfl, rfl, ⟨by decide, by decide⟩, _, _, rfl, rfl, _, rfl, _, _, rfl, rfl, g0, ?_⟩
    have b0 := Int.emod_nonneg ((t + 1) * 69621 + g / 7) (Int.ne_of_gt g0)
    have b1 := Int.emod_lt_of_pos ((t + 1) * 69621 + g / 7) g0
    have x23 := x2.trans x3
    refine ⟨_, rfl, tp, _, rfl, dget_at (x23.dk g1) (tpD_cells ..), cl, _, rfl, .inl (SqL.of (x23.lst g3)), fun J2 G2 wk2 hG2 => ?_⟩
    refine for_it wk2 (fun j σ H' => ∃ u5 bl, σ = [some (.ref tp), some (.int (t + 1)), some (.int x), some (.int g), some (.int bl), u5] ∧ 0 ≤ bl ∧ bl < g ∧ H' = H4) ⟨_, _, rfl, b0, b1, rfl⟩ (fun j σ H' _ ⟨_, _, _, _, _, e⟩ => by rw [e]; exact hG2 Z [] H4 (by simp) (Exb.refl _)) (fun j v σ H5 H6 hj ⟨u5, bl, hσ, c0, c1, e5⟩ hy => ?_) fun σ H5 ⟨u5, bl, hσ, c0, c1, e5⟩ => ?_
    · subst hσ e5
      obtain ⟨rfl, hx⟩ := hy
      obtain ⟨c, rfl⟩ : ∃ c : Int, v = .int c := by
        rw [List.getElem?_map] at hx
        cases q : cells[j]? with
        | none =>
          rw [q] at hx
          cases hx
        | some c =>
          rw [q] at hx
          exact ⟨c, (Option.some.inj hx).symm⟩
      refine ⟨_, rfl, _, _, rfl, rfl, .inr ⟨by decide, by decide⟩, _, rfl, .inl ⟨_, rfl, _, _, rfl, rfl, _, rfl, _, _, rfl, rfl, g0, _, _, rfl, ?_, ?_, rfl⟩⟩
      · exact Int.emod_nonneg _ (Int.ne_of_gt g0)
      · exact Int.emod_lt_of_pos _ g0
    · subst hσ e5
      refine ⟨_, rfl, _, _, rfl, rfl, .inr ⟨by decide, by decide⟩, _, rfl, _, _, rfl, rfl, ⟨by decide, by decide, by omega⟩, _, rfl, _, _, rfl, rfl, g0, _, _, rfl, rfl, _, _, _, _, rfl, x3⟩
  · subst hσ
    have x23 := x2.trans x3
    exact ⟨_, rfl, hq x H3 (x1.trans x23.any) ⟨r, t + 1, large, cells, x23.dk g1, x23.lst g2, x23.lst g3, h4⟩⟩
end
end K62
/-! ==== B62p ==== -/
namespace K62
open PySem PySem.Spec PyProof.Rows L2 Fx Od
section
variable {P : Program} {w : World} {K : PySem.W.Frag} {mg : Str → Option Value} {base : Heap} {C : Addr} {Z : List (Addr × Str)}
theorem ints_dp {H : Hp} : ∀ l : List Int, DpAll K H (l.map V.int) (l.map PyData.int)
  | [] => .nil
  | i :: r => .cons (.int i) (ints_dp r)
theorem ints_lay : ∀ l : List Int, PyData.canLayAll0 (l.map PyData.int) = true
  | [] => rfl
  | i :: r => by
    show (true && PyData.canLayAll0 (r.map PyData.int)) = true
    rw [ints_lay r]
    rfl
theorem ints_deep : ∀ l : List Int, PyData.depthAll (l.map PyData.int) = 0
  | [] => rfl
  | i :: r => by
    show max 0 (PyData.depthAll (r.map PyData.int)) = 0
    rw [ints_deep r]
    rfl
theorem ints_shaped (l : List Int) : SeqAt.shaped (.list (l.map PyData.int)) = true := by
  show (PyData.canLayAll0 (l.map PyData.int) && decide (PyData.depthAll (l.map PyData.int) + 1 ≤ 64)) = true
  rw [ints_lay, ints_deep]
  rfl
def spDraw (Z : List (Addr × Str)) : Sp := fun vs H Q _ => ∃ tp al cl size, vs = [.ref tp, .int (size : Nat)] ∧ TapeAt H tp al cl ∧ 0 < size ∧ size < 2 ^ 64 ∧ ∀ (n : Nat) H', n < size → Exb Z [tp, al] H H' → TapeAt H' tp al cl → Q (.int (n : Nat)) H'
theorem sc_law_draw : FnScope ["tape", "size", "found"] ["tape", "size"] (defScope s_law_draw) := ⟨rfl, rfl, rfl, by decide +kernel, rfl, by decide +kernel, by decide +kernel⟩
theorem draw_ok (T : Txt K mg C) (D : Df K mg "_law_draw" s_law_draw []) (c_law_blend : C8.Cal P w K mg base 1 "_law_blend" (spBlend Z) []) : C8.Cal P w K mg base 2 "_law_draw" (spDraw Z) [] := by
  refine D.cal (k := 1) sc_law_draw (by intro kV doc pm an cdv ct us h; match us, h with | [_, _], _ => rfl) (by rintro _ _ _ _ ⟨_, _, _, _, rfl, _⟩; rfl) ?_
  rintro f cdv A outer s H _ Q E hr ⟨tp, al, cl, size, rfl, hT, s0, s64, hq⟩
  have hu := hu_of hr
  have hu64 := hr.units
  refine ⟨_, (pss_cons (ps_if (pt_cmpR op_eq (pe_dget hu (pv 0) pe_str (fun _ _ => rfl)) pe_int (nomark _)) (pss_one (ps_dput hu (pv 0) pe_str (pe_ifExp (pt_cmpR (op_neD hu64) (pe_dget hu (pv 0) pe_str (fun _ _ => rfl)) (pe_lst pa_nil) (nomark _)) (pe_bm PySem.F.plainAttrs_list PySem.F.slot_list_pop PySem.F.type_list_pop mt_popAt (pe_dget hu (pv 0) pe_str (fun _ _ => rfl)) (pa_cons pe_int pa_nil)) (C8.pe_c c_law_blend hr (by decide) (by rfl) (pa_cons (pv 0) pa_nil))) rfl)) pss_nil)
      (pss_cons (ps_set (i := 2) sc_law_draw.nd rfl (by first | exact Or.inl rfl | exact Or.inr rfl) (pe_op op_mod (pe_callTy call_int1 (by rfl) T.int bt_int (pa_cons (pe_dget hu (pv 0) pe_str (fun _ _ => rfl)) pa_nil)) (pv 1)))
      (pss_cons (ps_dput hu (pv 0) pe_str (pe_op op_fdivW (pe_callTy call_int1 (by rfl) T.int bt_int (pa_cons (pe_dget hu (pv 0) pe_str (fun _ _ => rfl)) pa_nil)) (pv 1)) rfl)
      (pss_one (ps_ret (pv 2)))))), ?_⟩
  have fin : ∀ H1, Exb Z [tp, al] H H1 → TapeAt H1 tp al cl → (tSeq (tAsg (tOp (rI (fun _ j => 0 < j) fun i j => V.int (i % j)) (tCB (fun xs H Q => (∃ i, xs = [V.int i] ∧ Q (.int i) H) ∨ ∃ k, xs = [V.bl k] ∧ Q (.int (if k = true then 1 else 0)) H) (tCons (tDGet (tVar 0) (tC (.str "rest"))) tNil)) (tVar 1)) (gName 2))
      (tSeq (sDPut (tVar 0) (tC (.str "rest")) (tOp (rI CDivW fun i j => V.int (i / j)) (tCB (fun xs H Q => (∃ i, xs = [V.int i] ∧ Q (.int i) H) ∨ ∃ k, xs = [V.bl k] ∧ Q (.int (if k = true then 1 else 0)) H) (tCons (tDGet (tVar 0) (tC (.str "rest"))) tNil)) (tVar 1))) (tRet (tVar 2)))) { nx := fun _ H' => Q .non H', rt := Q } (start ["tape", "size", "found"] [.ref tp, .int (size : Nat)]) H1 := by
    rintro H1 x1 ⟨r, t, large, cells, h1, h2, h3, h4⟩
    have ntl : tp ≠ al := fun z => by rw [z, h2] at h1; cases h1
    have ntc : tp ≠ cl := fun z => by rw [z, h3] at h1; cases h1
    have sz : (0 : Int) < (size : Int) := by omega
    refine ⟨_, rfl, tp, _, rfl, dget_at h1 (tpD_rest ..), .inl ⟨_, rfl, _, rfl, _, _, rfl, rfl, sz, ?_⟩⟩
    refine ⟨_, rfl, tp, _, rfl, dget_at h1 (tpD_rest ..), .inl ⟨_, rfl, _, rfl, _, _, rfl, rfl, wide_div (b := 64) sz (by rw [Int.natAbs_natCast]; exact s64) (by decide) (by decide), _, rfl, tp, _, rfl, dput_at h1 (by show 4 < sizeLine; decide) (put_rest ..), ?_⟩⟩
    have m0 := Int.emod_nonneg r (Int.ne_of_gt sz)
    have m1 := Int.emod_lt_of_pos r sz
    obtain ⟨n, hn⟩ := Int.eq_ofNat_of_zero_le m0
    have hn2 : n < size := by omega
    have g := hq n (upd H1 tp (.dK (tpD al (r / (size : Int)) cl t))) hn2 (x1.mut (.inl (by simp)) (Mb.of h1 trivial)) ⟨_, t, large, cells, upd_same, by rw [upd_ne ntl.symm]; exact h2, by rw [upd_ne ntc.symm]; exact h3, h4⟩
    refine ⟨_, rfl, ?_⟩
    rw [← hn] at g
    exact g
  obtain ⟨r, t, large, cells, h1, h2, h3, h4⟩ := id hT
  have ntl : tp ≠ al := fun z => by rw [z, h2] at h1; cases h1
  have ntc : tp ≠ cl := fun z => by rw [z, h3] at h1; cases h1
  by_cases hr0 : r = 0
  · refine ⟨_, rfl, tp, _, rfl, dget_at h1 (tpD_rest ..), rfl, true, eqT (by rw [hr0]), ?_⟩
    refine ⟨_, rfl, tp, _, rfl, dget_at h1 (tpD_large ..), by show 0 ≤ sizeLine; decide, fun e ne => ?_⟩
    have x1 : Ex Z H (upd H e (.lst [])) := Ex.new ne
    have he1 : upd H e (.lst []) e = some (.lst []) := upd_same
    generalize upd H e (.lst []) = H1 at x1 he1
    have hT1 := hT.ex x1
    cases hl : large with
    | nil =>
      rw [hl] at h2
      refine ⟨_, _, .lst (SqL.of (x1.lst h2)) (ints_dp []), .lst (SqL.of he1) .nil, rfl, rfl, false, rfl, ?_⟩
      refine ⟨_, rfl, tp, al, cl, rfl, hT1, fun x H2 x2 hT2 => ?_⟩
      obtain ⟨r2, t2, large2, cells2, g1, g2, g3, g4⟩ := hT2
      have n1 : tp ≠ al := ntl
      have n2 : tp ≠ cl := fun z => by rw [z, g3] at g1; cases g1
      refine ⟨_, rfl, tp, _, rfl, dput_at g1 (by show 4 < sizeLine; decide) (put_rest ..), ?_⟩
      have x12 : Exb Z [tp, al] H H2 := x1.any.trans ⟨fun b o n h t => x2.1 b o (fun z => n (by rw [List.mem_singleton.mp z]; simp)) h t, x2.2⟩
      exact fin _ (x12.mut (.inl (by simp)) (Mb.of g1 trivial)) ⟨_, t2, large2, cells2, upd_same, by rw [upd_ne n1.symm]; exact g2, by rw [upd_ne n2.symm]; exact g3, g4⟩
    | cons i r' =>
      rw [hl] at h2
      refine ⟨_, _, .lst (SqL.of (x1.lst h2)) (ints_dp (i :: r')), .lst (SqL.of he1) .nil, ints_shaped (i :: r'), rfl, true, rfl, ?_⟩
      have k1 := x1.dk h1
      have k2 := x1.lst h2
      have k3 := x1.lst h3
      refine ⟨_, rfl, tp, _, rfl, dget_at k1 (tpD_large ..), .inl ⟨rfl, _, SqL.of k2⟩, al, _, 0, 0, .int i, rfl, rfl, k2, by decide, by decide, ?_, rfl, ?_⟩
      · show seqIndex? 0 (List.length (V.int i :: r'.map V.int)) = some 0
        unfold seqIndex?
        simp
      have j1 : upd H1 al (.lst (r'.map V.int)) tp = some (.dK (tpD al r cl t)) := by rw [upd_ne ntl]; exact k1
      have j3 : upd H1 al (.lst (r'.map V.int)) cl = some (.lst (cells.map V.int)) := by rw [upd_ne h4]; exact k3
      refine ⟨_, rfl, tp, _, rfl, dput_at j1 (by show 4 < sizeLine; decide) (put_rest ..), ?_⟩
      refine fin _ ((x1.any.mut (.inl (by simp)) (Mb.of k2 trivial)).mut (.inl (by simp)) (Mb.of j1 trivial)) ⟨_, t, r', cells, upd_same, ?_, ?_, h4⟩
      · rw [upd_ne ntl.symm]
        exact upd_same
      · rw [upd_ne ntc.symm]
        exact j3
  · refine ⟨_, rfl, tp, _, rfl, dget_at h1 (tpD_rest ..), rfl, false, eqF (fun z => hr0 (V.int.inj z)), ?_⟩
    exact fin H (Exb.refl _) hT
end
end K62
/-! ==== B62q ==== -/
namespace K62
open PySem PySem.Spec PyProof.Rows L2 Fx Od
section
variable {P : Program} {w : World} {K : PySem.W.Frag} {mg : Str → Option Value} {base : Heap} {C : Addr} {Z : List (Addr × Str)}
/-- what a draw changes -/
abbrev ExD (Z : List (Addr × Str)) (tp al : Addr) (H H' : Hp) : Prop := Exb Z [tp, al] H H'
def spPick (Z : List (Addr × Str)) : Sp := fun vs H Q _ => ∃ tp al cl l xs, vs = [.ref tp, .ref l] ∧ TapeAt H tp al cl ∧ H l = some (.lst xs) ∧ l ≠ tp ∧ l ≠ al ∧ 0 < xs.length ∧ xs.length < 2 ^ 64 ∧ ∀ v H', v ∈ xs → ExD Z tp al H H' → TapeAt H' tp al cl → Q v H'
theorem sc_law_pick : FnScope ["tape", "several"] ["tape", "several"] (defScope s_law_pick) := ⟨rfl, rfl, rfl, by decide +kernel, rfl, by decide +kernel, by decide +kernel⟩
theorem pick_ok (T : Txt K mg C) (D : Df K mg "_law_pick" s_law_pick []) (c_law_draw : C8.Cal P w K mg base 2 "_law_draw" (spDraw Z) []) : C8.Cal P w K mg base 3 "_law_pick" (spPick Z) [] := by
  refine D.cal (k := 2) sc_law_pick (by intro kV doc pm an cdv ct us h; match us, h with | [_, _], _ => rfl) (by rintro _ _ _ _ ⟨_, _, _, _, _, rfl, _⟩; rfl) ?_
  rintro f cdv A outer s H _ Q E hr ⟨tp, al, cl, l, xs, rfl, hT, hl, n1, n2, l0, l64, hq⟩
  refine ⟨_, (pss_one (ps_ret (pe_ix (ixlK (K := K) rfl) (pv 1) (C8.pe_c c_law_draw hr (by decide) (by rfl) (pa_cons (pv 0) (pa_cons (pe_callB (lenK (K := K) rfl) (by rfl) T.len bt_len (pa_cons (pv 1) pa_nil)) pa_nil))) (fun _ _ => rfl)))), ?_⟩
  refine ⟨_, rfl, _, rfl, _, rfl, l, _, rfl, .inl (SqL.of hl), tp, al, cl, xs.length, rfl, hT, l0, l64, fun n H1 hn x1 hT1 => ?_⟩
  have hl1 := x1.lstb (by simp [n1, n2]) hl
  exact ⟨l, xs, _, xs[n], rfl, rfl, SqL.of hl1, atI_nat (List.getElem?_eq_getElem hn), hq _ _ (List.getElem_mem hn) x1 hT1⟩
/-- a raw watch: (moves, words) -/
def RawAt (K : PySem.W.Frag) (H : Hp) (p : Addr) (W : Wt) : Prop := ∃ (m wd : Addr) (rs : List Addr), SqT K H p [.ref m, .ref wd] ∧ SqT K H m (rs.map V.ref) ∧ rs.length = W.n ∧ (∀ p r, rs[p]? = some r → SqT K H r (lineV W.k (W.mv p))) ∧ SqT K H wd (lineV W.n W.wd)
theorem SqT.exb {H H' : Hp} {B : List Addr} {a : Addr} {xs : List V} (x : Exb Z B H H') (hB : ∀ b ∈ B, ∀ u, H b = some u → Ml u) (h : SqT K H a xs) : SqT K H' a xs := by
  by_cases hb : a ∈ B
  · rcases h with (h | ⟨o, h⟩) | h
    · exact ((hB a hb _ h : Ml (.tup xs)) : False).elim
    · exact ((hB a hb _ h : Ml (.frz o (.tup xs))) : False).elim
    · exact .inr h
  · exact x.sqTb hb h
theorem RawAt.exb {H H' : Hp} {B : List Addr} {p : Addr} {W : Wt} (x : Exb Z B H H') (hB : ∀ b ∈ B, ∀ u, H b = some u → Ml u) (h : RawAt K H p W) : RawAt K H' p W := by
  obtain ⟨m, wd, rs, h1, h2, h3, h4, h5⟩ := h
  exact ⟨m, wd, rs, SqT.exb x hB h1, SqT.exb x hB h2, h3, fun p r e => SqT.exb x hB (h4 p r e), SqT.exb x hB h5⟩
theorem TapeAt.ml {H : Hp} {tp al cl : Addr} (h : TapeAt H tp al cl) : ∀ b ∈ [tp, al], ∀ u, H b = some u → Ml u := fun b hb u e => by
  obtain ⟨r, t, large, cells, h1, h2, h3, h4⟩ := h
  rcases List.mem_cons.mp hb with z | z
  · exact Ml.of h1 trivial u (by rw [← z]; exact e)
  · exact Ml.of h2 trivial u (by rw [← List.mem_singleton.mp z]; exact e)
theorem lineV_snoc (i : Nat) (g : Nat → Nat) (n : Nat) : lineV i g ++ [.int (n : Nat)] = lineV (i + 1) (fun c => if c = i then n else g c) := by
  unfold lineV
  rw [List.range_succ, List.map_append]
  congr 1
  · apply List.map_congr_left
    intro c hc
    have := List.mem_range.mp hc
    show V.int (g c : Nat) = V.int ((if c = i then n else g c : Nat) : Int)
    rw [if_neg (by omega)]
  · show [V.int (n : Nat)] = [V.int ((if i = i then n else g i : Nat) : Int)]
    rw [if_pos rfl]
/-- within a comprehension of draws: a line of numbers below b -/
def PiL (tp al cl : Addr) (b : Nat) : Nat → List V → Hp → Prop := fun i acc H => TapeAt H tp al cl ∧ ∃ g : Nat → Nat, acc = lineV i g ∧ ∀ c < i, g c < b
theorem PiL.step {tp al cl D : Addr} {b i n : Nat} {acc : List V} {H H' : Hp} (h : PiL tp al cl b i acc H) (hT : TapeAt H' tp al cl) (nD : D ≠ tp ∧ D ≠ al ∧ D ≠ cl) (hn : n < b) : PiL tp al cl b (i + 1) (acc ++ [.int (n : Nat)]) (upd H' D (.lst (acc ++ [.int (n : Nat)]))) := by
  obtain ⟨_, g, rfl, hg⟩ := h
  refine ⟨hT.put nD.1 nD.2.1 nD.2.2, _, lineV_snoc i g n, fun c hc => ?_⟩
  show (if c = i then n else g c) < b
  by_cases e : c = i
  · rw [if_pos e]
    exact hn
  · rw [if_neg e]
    exact hg c (by omega)
def spLawWatch (K : PySem.W.Frag) (Z : List (Addr × Str)) : Sp := fun vs H Q _ => ∃ tp al cl pl k wd, vs = [.ref tp, .int (pl : Nat), .int (k : Nat), .int (wd : Nat)] ∧ TapeAt H tp al cl ∧ 0 < pl ∧ pl ≤ 6 ∧ 0 < k ∧ k ≤ 4 ∧ 0 < wd ∧ wd ≤ 4 ∧
  ∀ p W H', W.Ok → W.k = k → W.n ≤ pl → RawAt K H' p W → ExD Z tp al H H' → TapeAt H' tp al cl → Q (.ref p) H'
def scWatchPlace : Scope := { kind := .function, names := [(".0", .local), ("place", .local), ("tuple", .globalImplicit), ("range", .globalImplicit), ("kinds", .cell), ("many", .cell), ("tape", .cell)], isGenerator := false, isCoroutine := false }
theorem sc_law_watch : FnScope ["tape", "places", "kinds", "words", "many", "moves", "place", "kind"] ["tape", "places", "kinds", "words"] (defScope s_law_watch) := ⟨rfl, rfl, rfl, by decide +kernel, rfl, by decide +kernel, by decide +kernel⟩
theorem lwatch_ok (T : Txt K mg C) (D : Df K mg "_law_watch" s_law_watch []) (c_law_draw : C8.Cal P w K mg base 2 "_law_draw" (spDraw Z) []) : C8.Cal P w K mg base 3 "_law_watch" (spLawWatch K Z) [] := by
  refine D.cal (k := 2) sc_law_watch (by intro kV doc pm an cdv ct us h; match us, h with | [_, _, _, _], _ => rfl) (by rintro _ _ _ _ ⟨_, _, _, _, _, _, rfl, _⟩; rfl) ?_
  rintro f cdv A outer s H _ Q E hr ⟨tp, al, cl, pl, k, wd, rfl, hT, p0, p6, k0, k4, w0, w4, hq⟩
  refine ⟨_, (pss_cons (ps_set (i := 4) sc_law_watch.nd rfl (by first | exact Or.inl rfl | exact Or.inr rfl) (pe_op op_add pe_int (C8.pe_c c_law_draw hr (by decide) (by rfl) (pa_cons (pv 0) (pa_cons (pv 1) pa_nil)))))
      (pss_cons (ps_set (i := 5) sc_law_watch.nd rfl (by first | exact Or.inl rfl | exact Or.inr rfl) (pe_callTy (tupK (K := K) rfl) (by rfl) T.tuple bt_tuple (pa_cons (pe_lc (own := [("place", 6)]) rfl sc_law_watch.nd (pi_range1 (by rfl) T.range (pa_cons (pv 4) pa_nil)) (blkOk_by (own := [("place", 6)]) (N := ["tape", "places", "kinds", "words", "many", "moves", "place", "kind"]) (sc := defScope s_law_watch) (by decide +kernel)) (fun _ _ _ _ _ => (pg_name (i := 6) sc_law_watch.nd rfl (by first | exact Or.inl rfl | exact Or.inr rfl))) (fun _ _ _ _ _ => pts_nil) (fun _ _ _ _ _ => (pe_callTy (tupK (K := K) rfl) (by rfl) T.tuple bt_tuple (pa_cons (pe_lc (own := [("kind", 7)]) rfl sc_law_watch.nd (pi_range1 (by rfl) T.range (pa_cons (pv 2) pa_nil)) (blkOk_by (own := [("kind", 7)]) (N := ["tape", "places", "kinds", "words", "many", "moves", "place", "kind"]) (sc := scWatchPlace) (by decide +kernel)) (fun _ _ _ _ _ => (pg_name (i := 7) sc_law_watch.nd rfl (by first | exact Or.inl rfl | exact Or.inr rfl))) (fun _ _ _ _ _ => pts_nil) (fun _ _ _ _ _ => (C8.pe_c c_law_draw hr (by decide) (by rfl) (pa_cons (pv 0) (pa_cons (pv 4) pa_nil))))) pa_nil)))) pa_nil)))
      (pss_one (ps_ret (pe_tup (pa_cons (pv 5) (pa_cons (pe_callTy (tupK (K := K) rfl) (by rfl) T.tuple bt_tuple (pa_cons (pe_lc (own := [("place", 6)]) rfl sc_law_watch.nd (pi_range1 (by rfl) T.range (pa_cons (pv 4) pa_nil)) (blkOk_by (own := [("place", 6)]) (N := ["tape", "places", "kinds", "words", "many", "moves", "place", "kind"]) (sc := defScope s_law_watch) (by decide +kernel)) (fun _ _ _ _ _ => (pg_name (i := 6) sc_law_watch.nd rfl (by first | exact Or.inl rfl | exact Or.inr rfl))) (fun _ _ _ _ _ => pts_nil) (fun _ _ _ _ _ => (C8.pe_c c_law_draw hr (by decide) (by rfl) (pa_cons (pv 0) (pa_cons (pv 3) pa_nil))))) pa_nil)) pa_nil))))))), ?_⟩
  refine ⟨_, rfl, _, rfl, tp, al, cl, pl, rfl, hT, p0, by omega, fun m H1 hm x1 hT1 => ?_⟩
  refine ⟨_, _, rfl, rfl, ?_⟩
  have n1 : 1 ≤ 1 + m := by omega
  have e1 : (1 : Int) + (m : Int) = ((1 + m : Nat) : Int) := by omega
  have n6 : 1 + m ≤ pl := by omega
  generalize 1 + m = n at n1 e1 n6
  show gName 4 (V.int ((1 : Int) + (m : Int))) _ H1 _
  rw [e1]
  refine ⟨_, rfl, (n : Nat), rfl, by omega, by omega, fun D1 hD1 => ?_⟩
  have nD1 := hT1.new hD1
  have ml1 := hT1.ml
  refine lcE (B := [tp, al]) (Z := Z) (walk_range (lo := 0) (n := n)) hD1 (fun _ _ => trivial) (by omega) (fun i acc H => TapeAt H tp al cl ∧ ∃ (mv : Nat → Nat → Nat) (ts : List Addr), acc = ts.map V.ref ∧ ts.length = i ∧ (∀ j t, ts[j]? = some t → SqT K H t (lineV k (mv j))) ∧ ∀ j < i, ∀ c < k, mv j c < n) ⟨hT1.put nD1.1 nD1.2.1 nD1.2.2, fun _ _ => 0, [], rfl, rfl, fun j t e => by simp at e, fun j hj => by omega⟩ (fun i acc x H2 H3 hi x2 ha hla hp hy => ?_) fun acc H2 x2 ha hp => ?_
  · obtain ⟨rfl, rfl⟩ := hy
    obtain ⟨hT2, mv, ts, rfl, hts, hrow, hmv⟩ := hp
    refine ⟨rfl, _, rfl, (k : Nat), rfl, by omega, by omega, fun D2 hD2 => ?_⟩
    have nD2 := hT2.new hD2
    have ml2 := hT2.ml
    refine lcE (B := [tp, al]) (Z := Z) (walk_range (lo := 0) (n := k)) hD2 (fun _ _ => trivial) (by omega) (PiL tp al cl n) ⟨hT2.put nD2.1 nD2.2.1 nD2.2.2, fun _ => 0, rfl, fun c hc => by omega⟩ (fun j acc2 x H4 H5 hj x4 ha4 hla4 hp4 hy => ?_) fun acc2 H4 x4 ha4 hp4 => ?_
    · obtain ⟨rfl, rfl⟩ := hy
      refine ⟨rfl, _, rfl, _, rfl, tp, al, cl, n, rfl, hp4.1, by omega, by omega, fun v H6 hv x6 hT6 => ?_⟩
      exact LcP.put x4 hD2 ha4 (by simp [nD2.1, nD2.2.1]) hla4 (by omega) x6 (hp4.step hT6 nD2 hv)
    · obtain ⟨hT4, g, rfl, hg⟩ := hp4
      refine ⟨D2, _, rfl, .inl ⟨SqL.of ha4, fun t nt => ?_⟩⟩
      have x5 : Ex Z H4 (upd H4 t (.tup (lineV k g))) := Ex.new nt
      have x45 := x4.trans x5.any
      have hD5 := x45.lstb (by simp [nD1.1, nD1.2.1]) ha
      have hT5 := hT4.ex x5
      have ht5 : SqT K (upd H4 t (.tup (lineV k g))) t (lineV k g) := SqT.of upd_same
      generalize upd H4 t (.tup (lineV k g)) = H5 at x5 x45 hD5 hT5 ht5
      refine LcP.put x2 hD1 ha (by simp [nD1.1, nD1.2.1]) hla (by omega) x45 ⟨hT5.put nD1.1 nD1.2.1 nD1.2.2, fun j => if j = i then g else mv j, ts ++ [t], by simp, by simp [hts], fun j u e => SqT.put' ?_ hD5 trivial, fun j hj c hc => ?_⟩
      · show SqT K H5 u (lineV k (if j = i then g else mv j))
        by_cases hj : j < ts.length
        · rw [List.getElem?_append_left hj] at e
          rw [if_neg (by omega)]
          exact SqT.exb x45 ml2 (hrow j u e)
        · rw [List.getElem?_append_right (by omega)] at e
          have j0 : j = i := by
            have := (List.getElem?_eq_some_iff.mp e).1
            simp at this
            omega
          rw [j0, hts, Nat.sub_self] at e
          rw [if_pos j0, ← Option.some.inj e]
          exact ht5
      · show (if j = i then g else mv j) c < n
        by_cases hji : j = i
        · rw [if_pos hji]
          exact hg c hc
        · rw [if_neg hji]
          exact hmv j (by omega) c hc
  · obtain ⟨hT2, mv, ts, rfl, hts, hrow, hmv⟩ := hp
    refine ⟨D1, _, rfl, .inl ⟨SqL.of ha, fun mt nt => ?_⟩⟩
    have x3 : Ex Z H2 (upd H2 mt (.tup (ts.map V.ref))) := Ex.new nt
    have hT3 := hT2.ex x3
    have hm3 : SqT K (upd H2 mt (.tup (ts.map V.ref))) mt (ts.map V.ref) := SqT.of upd_same
    have hrow3 : ∀ j t, ts[j]? = some t → SqT K (upd H2 mt (.tup (ts.map V.ref))) t (lineV k (mv j)) := fun j t e => x3.sqT (hrow j t e)
    generalize upd H2 mt (.tup (ts.map V.ref)) = H3 at x3 hT3 hm3 hrow3
    refine ⟨_, rfl, _, rfl, (n : Nat), rfl, by omega, by omega, fun D2 hD2 => ?_⟩
    have nD2 := hT3.new hD2
    have ml3 := hT3.ml
    refine lcE (B := [tp, al]) (Z := Z) (walk_range (lo := 0) (n := n)) hD2 (fun _ _ => trivial) (by omega) (PiL tp al cl wd) ⟨hT3.put nD2.1 nD2.2.1 nD2.2.2, fun _ => 0, rfl, fun c hc => by omega⟩ (fun j acc2 x H4 H5 hj x4 ha4 hla4 hp4 hy => ?_) fun acc2 H4 x4 ha4 hp4 => ?_
    · obtain ⟨rfl, rfl⟩ := hy
      refine ⟨rfl, _, rfl, _, rfl, tp, al, cl, wd, rfl, hp4.1, by omega, by omega, fun v H6 hv x6 hT6 => ?_⟩
      exact LcP.put x4 hD2 ha4 (by simp [nD2.1, nD2.2.1]) hla4 (by omega) x6 (hp4.step hT6 nD2 hv)
    · obtain ⟨hT4, g, rfl, hg⟩ := hp4
      refine ⟨D2, _, rfl, .inl ⟨SqL.of ha4, fun t nt => ?_⟩⟩
      have x5 : Ex Z H4 (upd H4 t (.tup (lineV n g))) := Ex.new nt
      have ht5 : SqT K (upd H4 t (.tup (lineV n g))) t (lineV n g) := SqT.of upd_same
      generalize upd H4 t (.tup (lineV n g)) = H5 at x5 ht5
      refine ⟨by show 2 ≤ sizeLine; decide, fun p np => ?_⟩
      have x6 : Ex Z H5 (upd H5 p (.tup [.ref mt, .ref t])) := Ex.new np
      have hp6 : SqT K (upd H5 p (.tup [.ref mt, .ref t])) p [.ref mt, .ref t] := SqT.of upd_same
      generalize upd H5 p (.tup [.ref mt, .ref t]) = H6 at x6 hp6
      have x36 := (x4.trans x5.any).trans x6.any
      exact hq p ⟨n, k, mv, g⟩ H6 ⟨n1, by show n ≤ 6; omega, k0, k4, hmv, fun q hq => by have := hg q hq; show g q ≤ 3; omega⟩ rfl n6
        ⟨mt, t, ts, hp6, SqT.exb x36 ml3 hm3, hts, fun j u e => SqT.exb x36 ml3 (hrow3 j u e), x6.sqT ht5⟩ (((x1.trans x2).trans x3.any).trans x36) ((hT4.ex x5).ex x6)
end
end K62
/-! ==== B62r ==== -/
namespace K62
open PySem PySem.Spec PyProof.Rows L2 Fx Od
section
variable {P : Program} {w : World} {K : PySem.W.Frag} {mg : Str → Option Value} {base : Heap} {C : Addr} {Z : List (Addr × Str)}
theorem mk_ex {H : Hp} {x dx : Addr} (nx : H x = none) (nd : H dx = none) (ne : dx ≠ x) : Ex Z H (upd (upd H dx (.own x)) x (.ins C dx [])) :=
  (Ex.new nd).trans (Ex.new (by rw [upd_ne ne.symm]; exact nx))
/-- rows that are lists, each its own -/
def PiR (D : Addr) (k : Nat) (mv : Nat → Nat → Nat) : Nat → List V → Hp → Prop := fun i acc H => ∃ ts : List Addr, acc = ts.map V.ref ∧ ts.length = i ∧ ∀ j t, ts[j]? = some t → H t = some (.lst (lineV k (mv j))) ∧ t ≠ D
theorem PiR.step {D t : Addr} {k i : Nat} {mv : Nat → Nat → Nat} {acc : List V} {H H' : Hp} (h : PiR D k mv i acc H) (x : Ex Z H H') (ht : H' t = some (.lst (lineV k (mv i)))) (n : t ≠ D) : PiR D k mv (i + 1) (acc ++ [.ref t]) (upd H' D (.lst (acc ++ [.ref t]))) := by
  obtain ⟨ts, rfl, hl, hr⟩ := h
  refine ⟨ts ++ [t], by simp, by simp [hl], fun j u e => ?_⟩
  by_cases hj : j < ts.length
  · rw [List.getElem?_append_left hj] at e
    have := hr j u e
    exact ⟨by rw [upd_ne this.2]; exact x.lst this.1, this.2⟩
  · rw [List.getElem?_append_right (by omega)] at e
    have j0 : j = i := by
      have := (List.getElem?_eq_some_iff.mp e).1
      simp at this
      omega
    rw [j0, hl, Nat.sub_self] at e
    rw [j0, ← Option.some.inj e]
    exact ⟨by rw [upd_ne n]; exact ht, n⟩
def spMade (K : PySem.W.Frag) (Z : List (Addr × Str)) (C : Addr) : Sp := fun vs H Q _ => ∃ p W, vs = [.ref p] ∧ RawAt K H p W ∧ W.Ok ∧ LamX.Tabs Z H ∧ ∀ x H', Ex Z H H' → WatchAt K C H' x W → Q (.ref x) H'
theorem sc_law_made : FnScope ["watch", "goals"] ["watch"] (defScope s_law_made) := ⟨rfl, rfl, rfl, by decide +kernel, rfl, by decide +kernel, by decide +kernel⟩
theorem made_ok (T : Txt K mg C) (D : Df K mg "_law_made" s_law_made []) (c_Watch : C8.Mak P w K mg base 7 "Watch" C (spWatch K Z C) []) : C8.Cal P w K mg base 9 "_law_made" (spMade K Z C) [] := by
  refine D.cal (k := 8) sc_law_made (by intro kV doc pm an cdv ct us h; match us, h with | [_], _ => rfl) (by rintro _ _ _ _ ⟨_, _, rfl, _⟩; rfl) ?_
  rintro f cdv A outer s H _ Q E hr ⟨p, W, rfl, ⟨m, wd, rs, hp, hm, hn, hrow, hwd⟩, ok, hT, hq⟩
  have n6 := ok.n6
  refine ⟨_, (pss_one (ps_ret (C8.pe_mk c_Watch hr (by decide) (by rfl) (pa_cons (pe_lc (own := [("goals", 1)]) rfl sc_law_made.nd (pi_seqK (K := K) rfl (pe_ix (ixtK (K := K) rfl) (pv 0) pe_int (fun _ _ => rfl))) (blkOk_by (own := [("goals", 1)]) (N := ["watch", "goals"]) (sc := defScope s_law_made) (by decide +kernel)) (fun _ _ _ _ _ => (pg_name (i := 1) sc_law_made.nd rfl (by first | exact Or.inl rfl | exact Or.inr rfl))) (fun _ _ _ _ _ => pts_nil) (fun _ _ _ _ _ => (pe_callTy (lstK (K := K) rfl) (by rfl) T.list bt_list (pa_cons (pv 1) pa_nil)))) (pa_cons (pe_callTy (lstK (K := K) rfl) (by rfl) T.list bt_list (pa_cons (pe_ix (ixtK (K := K) rfl) (pv 0) pe_int (fun _ _ => rfl)) pa_nil)) pa_nil))))), ?_⟩
  refine ⟨_, rfl, _, _, ((0 : Nat) : Int), .ref m, rfl, rfl, hp, atI_nat rfl, m, _, rfl, .inr hm, fun J G wk hG D hD => ?_⟩
  rw [List.length_map, hn] at wk
  refine lcE (B := []) (Z := Z) wk hD (hG Z [] · (by simp)) (by omega) (PiR D W.k W.mv) ⟨[], rfl, rfl, fun j t e => by simp at e⟩ (fun i acc x H3 H4 hi x3 ha hla hpi hy => ?_) fun acc H3 x3 ha hpi => ?_
  · obtain ⟨rfl, hx⟩ := hy
    rw [List.getElem?_map, List.getElem?_eq_getElem (by omega)] at hx
    obtain rfl := Option.some.inj hx
    refine ⟨rfl, _, rfl, _, _, rfl, .inr (x3.sqT (hrow i _ (List.getElem?_eq_getElem (by omega)))), fun l nl => ?_⟩
    have x4 : Ex Z H4 (upd H4 l (.lst (lineV W.k (W.mv i)))) := Ex.new nl
    exact LcP.put x3 hD ha (by simp) hla (by omega) x4 (hpi.step x4 upd_same (fun z => by rw [z, ha] at nl; cases nl))
  · obtain ⟨ts, rfl, hts, hti⟩ := hpi
    refine ⟨_, rfl, _, _, ((1 : Nat) : Int), .ref wd, rfl, rfl, x3.sqT hp, atI_nat rfl, wd, _, rfl, .inr (x3.sqT hwd), fun b nb => ?_⟩
    have x4 : Ex Z H3 (upd H3 b (.lst (lineV W.n W.wd))) := Ex.new nb
    have hb4 : upd H3 b (.lst (lineV W.n W.wd)) b = some (.lst (lineV W.n W.wd)) := upd_same
    generalize upd H3 b (.lst (lineV W.n W.wd)) = H4 at x4 hb4
    refine fun x dx nx nd ne => ?_
    have x5 : Ex Z H4 (upd (upd H4 dx (.own x)) x (.ins C dx [])) := mk_ex nx nd ne
    refine ⟨x, D, b, dx, W, rfl, upd_same, ⟨ts, .inl (SqL.of ((x4.trans x5).lst ha)), by omega, fun j t e => .inl (SqL.of ((x4.trans x5).lst (hti j t e).1))⟩, .inl (SqL.of (x5.lst hb4)), ok, ((x3.trans x4).trans x5).2 hT, fun H' xb hW => ⟨rfl, hq x H' ((x3.trans x4).trans (Exb.unb x5 nx xb)) hW⟩⟩
/-! ### begun at a place -/
theorem ixN_nat {n j : Nat} (h : j < n) : ixN n (j : Int) = some j := by
  unfold ixN
  rw [if_pos (by omega), if_pos (by omega)]
  simp
theorem lineV_succ (i : Nat) (f : Nat → Nat) : lineV i f ++ [.int (f i : Nat)] = lineV (i + 1) f := by
  unfold lineV
  rw [List.range_succ, List.map_append]
  rfl
/-- rows that are tuples -/
def PiT (K : PySem.W.Frag) (k : Nat) (mv : Nat → Nat → Nat) : Nat → List V → Hp → Prop := fun i acc H => ∃ ts : List Addr, acc = ts.map V.ref ∧ ts.length = i ∧ ∀ j t, ts[j]? = some t → SqT K H t (lineV k (mv j))
theorem PiT.step {D t : Addr} {k i : Nat} {mv : Nat → Nat → Nat} {acc : List V} {H H' : Hp} (h : PiT K k mv i acc H) (x : Ex Z H H') (hD : H' D = some (.lst acc)) (ht : SqT K H' t (lineV k (mv i))) : PiT K k mv (i + 1) (acc ++ [.ref t]) (upd H' D (.lst (acc ++ [.ref t]))) := by
  obtain ⟨ts, rfl, hl, hr⟩ := h
  refine ⟨ts ++ [t], by simp, by simp [hl], fun j u e => SqT.put' ?_ hD trivial⟩
  by_cases hj : j < ts.length
  · rw [List.getElem?_append_left hj] at e
    exact x.sqT (hr j u e)
  · rw [List.getElem?_append_right (by omega)] at e
    have j0 : j = i := by
      have := (List.getElem?_eq_some_iff.mp e).1
      simp at this
      omega
    rw [j0, hl, Nat.sub_self] at e
    rw [j0, ← Option.some.inj e]
    exact ht
theorem atI_zero {xs : List V} {i : Nat} {v : V} (h : xs[i]? = some v) : atI xs (0 + (i : Int)) = some v := by
  rw [Int.zero_add]
  exact atI_nat h
theorem names_set {n place : Nat} (h : place < n) : (((lineV n id).set 0 (V.int (place : Nat))).set place (.int 0)) = lineV n (nm place) := by
  apply List.ext_getElem?
  intro i
  by_cases hi : i < n
  · rw [lineV_at hi]
    by_cases e1 : place = i
    · subst e1
      rw [List.getElem?_set_self (by rw [List.length_set, lineV_len]; exact h)]
      unfold nm
      rw [if_pos rfl]
      rfl
    · rw [List.getElem?_set_ne e1]
      by_cases e0 : 0 = i
      · subst e0
        rw [List.getElem?_set_self (by rw [lineV_len]; omega)]
        unfold nm
        rw [if_neg (fun z => e1 z.symm), if_pos rfl]
      · rw [List.getElem?_set_ne e0, lineV_at hi]
        unfold nm
        rw [if_neg (fun z => e1 z.symm), if_neg (fun z => e0 z.symm)]
        rfl
  · rw [List.getElem?_eq_none (by rw [List.length_set, List.length_set, lineV_len]; omega), List.getElem?_eq_none (by rw [lineV_len]; omega)]
def scBegunSpot : Scope := { kind := .function, names := [(".0", .local), ("spot", .local), ("tuple", .globalImplicit), ("names", .cell), ("watch", .cell)], isGenerator := false, isCoroutine := false }
def spBegunAt (K : PySem.W.Frag) (Z : List (Addr × Str)) (C : Addr) : Sp := fun vs H Q _ => ∃ p W place, vs = [.ref p, .int (place : Nat)] ∧ RawAt K H p W ∧ W.Ok ∧ place < W.n ∧ LamX.Tabs Z H ∧ ∀ x H', Ex Z H H' → WatchAt K C H' x (beg W place) → Q (.ref x) H'
theorem sc_law_begun_at : FnScope ["watch", "place", "names", "moves", "spot", "goal"] ["watch", "place"] (defScope s_law_begun_at) := ⟨rfl, rfl, rfl, by decide +kernel, rfl, by decide +kernel, by decide +kernel⟩
theorem begun_at_ok (T : Txt K mg C) (D : Df K mg "_law_begun_at" s_law_begun_at []) (c_Watch : C8.Mak P w K mg base 7 "Watch" C (spWatch K Z C) []) : C8.Cal P w K mg base 9 "_law_begun_at" (spBegunAt K Z C) [] := by
  refine D.cal (k := 8) sc_law_begun_at (by intro kV doc pm an cdv ct us h; match us, h with | [_, _], _ => rfl) (by rintro _ _ _ _ ⟨_, _, _, rfl, _⟩; rfl) ?_
  rintro f cdv A outer s H _ Q E hr ⟨p, W, place, rfl, ⟨m, wd, rs, hp, hm, hn, hrow, hwd⟩, ok, hpl, hT, hq⟩
  have n6 := ok.n6
  refine ⟨_, (pss_cons (ps_set (i := 2) sc_law_begun_at.nd rfl (by first | exact Or.inl rfl | exact Or.inr rfl) (pe_listRg rfl (by rfl) T.list (prg_1 (by rfl) T.range (pe_callB (lenK (K := K) rfl) (by rfl) T.len bt_len (pa_cons (pe_ix (ixtK (K := K) rfl) (pv 0) pe_int (fun _ _ => rfl)) pa_nil)))))
      (pss_cons (ps_asg (pe_tup (pa_cons (pv 1) (pa_cons pe_int pa_nil))) (pg_tupK (K := K) (n := 2) rfl rfl (pgs_cons (pg_sub (pv 2) pe_int set_list) (pgs_cons (pg_sub (pv 2) (pv 1) set_list) pgs_nil))))
      (pss_cons (ps_setLc (i := 3) (own := [("spot", 4)]) rfl sc_law_begun_at.nd rfl rfl (sw_true rfl rfl rfl (by decide +kernel)) (pi_range1 (by rfl) T.range (pa_cons (pe_callB (lenK (K := K) rfl) (by rfl) T.len bt_len (pa_cons (pv 2) pa_nil)) pa_nil)) (blkOk_by (own := [("spot", 4)]) (N := ["watch", "place", "names", "moves", "spot", "goal"]) (sc := defScope s_law_begun_at) (by decide +kernel)) (fun _ _ _ _ _ => (pg_name (i := 4) sc_law_begun_at.nd rfl (by first | exact Or.inl rfl | exact Or.inr rfl))) (fun _ _ _ _ _ => pts_nil) (fun _ _ _ _ _ => (pe_callTy (tupK (K := K) rfl) (by rfl) T.tuple bt_tuple (pa_cons (pe_lc (own := [("goal", 5)]) rfl sc_law_begun_at.nd (pi_seqK (K := K) rfl (pe_ix (ixtK (K := K) rfl) (pe_ix (ixtK (K := K) rfl) (pv 0) pe_int (fun _ _ => rfl)) (pe_ix (ixlK (K := K) rfl) (pv 2) (pv 4) (fun _ _ => rfl)) (fun _ _ => rfl))) (blkOk_by (own := [("goal", 5)]) (N := ["watch", "place", "names", "moves", "spot", "goal"]) (sc := scBegunSpot) (by decide +kernel)) (fun _ _ _ _ _ => (pg_name (i := 5) sc_law_begun_at.nd rfl (by first | exact Or.inl rfl | exact Or.inr rfl))) (fun _ _ _ _ _ => pts_nil) (fun _ _ _ _ _ => (pe_ix (ixlK (K := K) rfl) (pv 2) (pv 5) (fun _ _ => rfl)))) pa_nil))))
      (pss_one (ps_ret (C8.pe_mk c_Watch hr (by decide) (by rfl) (pa_cons (pv 3) (pa_cons (pe_lc (own := [("spot", 4)]) rfl sc_law_begun_at.nd (pi_range1 (by rfl) T.range (pa_cons (pe_callB (lenK (K := K) rfl) (by rfl) T.len bt_len (pa_cons (pv 2) pa_nil)) pa_nil)) (blkOk_by (own := [("spot", 4)]) (N := ["watch", "place", "names", "moves", "spot", "goal"]) (sc := defScope s_law_begun_at) (by decide +kernel)) (fun _ _ _ _ _ => (pg_name (i := 4) sc_law_begun_at.nd rfl (by first | exact Or.inl rfl | exact Or.inr rfl))) (fun _ _ _ _ _ => pts_nil) (fun _ _ _ _ _ => (pe_ix (ixtK (K := K) rfl) (pe_ix (ixtK (K := K) rfl) (pv 0) pe_int (fun _ _ => rfl)) (pe_ix (ixlK (K := K) rfl) (pv 2) (pv 4) (fun _ _ => rfl)) (fun _ _ => rfl)))) pa_nil)))))))), ?_⟩
  refine ⟨_, rfl, _, _, ((0 : Nat) : Int), .ref m, rfl, rfl, hp, atI_nat rfl, m, _, rfl, .inr hm, ?_⟩
  refine ⟨_, rfl, RgOk.of_le (by omega) (by rw [List.length_map, hn]; omega) (by omega) (by omega), fun nl nnl => ?_⟩
  have hrg : rgV 0 (((rs.map V.ref).length : Nat) : Int) = lineV W.n id := by
    unfold rgV lineV
    rw [List.length_map, hn, show (((W.n : Nat) : Int) - 0).toNat = W.n by omega]
    apply List.map_congr_left
    intro c _
    show V.int (0 + (c : Int)) = V.int ((c : Nat) : Int)
    rw [Int.zero_add]
  have x1 : Ex Z H (upd H nl (.lst (rgV 0 (((rs.map V.ref).length : Nat) : Int)))) := Ex.new nnl
  have h1 : upd H nl (.lst (rgV 0 (((rs.map V.ref).length : Nat) : Int))) nl = some (.lst (lineV W.n id)) := by
    rw [← hrg]
    exact upd_same
  generalize upd H nl (.lst (rgV 0 (((rs.map V.ref).length : Nat) : Int))) = H1 at x1 h1
  refine ⟨_, rfl, by show 2 ≤ sizeLine; decide, fun tp ntp => ⟨_, _, rfl, SqT.of upd_same, rfl, _, _, rfl, ?_⟩⟩
  have x2 : Ex Z H (upd H1 tp (.tup [.int (place : Nat), .int 0])) := x1.trans (Ex.new ntp)
  have h2 := (Ex.new ntp (Z := Z) (o := .tup [.int (place : Nat), .int 0])).lst h1
  generalize upd H1 tp (.tup [.int (place : Nat), .int 0]) = H2 at x2 h2
  refine ⟨_, rfl, nl, _, _, 0, rfl, rfl, h2, ixN_nat (by rw [lineV_len]; exact ok.n1), ?_⟩
  refine ⟨_, _, rfl, _, rfl, _, rfl, nl, _, _, place, rfl, rfl, upd_same, ixN_nat (by rw [List.length_set, lineV_len]; exact hpl), rfl, ?_⟩
  rw [names_set hpl]
  have x3 : Ex Z H (upd (upd H2 nl (.lst ((lineV W.n id).set 0 (.int (place : Nat))))) nl (.lst (lineV W.n (nm place)))) := (x2.mut (.inr nnl) (Mb.of h2 trivial)).mut (.inr nnl) (Mb.of upd_same trivial)
  have h3 : upd (upd H2 nl (.lst ((lineV W.n id).set 0 (.int (place : Nat))))) nl (.lst (lineV W.n (nm place))) nl = some (.lst (lineV W.n (nm place))) := upd_same
  generalize upd (upd H2 nl (.lst ((lineV W.n id).set 0 (.int (place : Nat))))) nl (.lst (lineV W.n (nm place))) = H3 at x3 h3
  have hp3 := x3.sqT hp
  have hm3 := x3.sqT hm
  have hrow3 : ∀ p r, rs[p]? = some r → SqT K H3 r (lineV W.k (W.mv p)) := fun p r e => x3.sqT (hrow p r e)
  have hwd3 := x3.sqT hwd
  refine ⟨_, rfl, nl, _, rfl, .inl (SqL.of h3), _, rfl, by omega, by rw [lineV_len]; omega, fun D hD => ?_⟩
  refine lcE (B := []) (Z := Z) (walk_range (lo := 0) (n := (lineV W.n (nm place)).length)) hD (fun _ _ => trivial) (by rw [lineV_len]; omega) (PiT K W.k (beg W place).mv) ⟨[], rfl, rfl, fun j t e => by simp at e⟩ (fun i acc x H4 H5 hi x4 ha hla hpi hy => ?_) fun acc H4 x4 ha hpi => ?_
  · obtain ⟨rfl, rfl⟩ := hy
    rw [lineV_len] at hi
    have hnm := nm_lt hi hpl
    obtain ⟨r, hr0⟩ : ∃ r, rs[nm place i]? = some r := ⟨rs[nm place i]'(by omega), List.getElem?_eq_getElem (by omega)⟩
    refine ⟨rfl, _, rfl, _, _, ((0 : Nat) : Int), .ref m, rfl, rfl, x4.sqT hp3, atI_nat rfl, _, rfl, _, rfl, nl, _, _, .int (nm place i : Nat), rfl, rfl, SqL.of (x4.lst h3), atI_zero (lineV_at hi), ?_⟩
    refine ⟨m, _, _, .ref r, rfl, rfl, x4.sqT hm3, atI_nat (by rw [List.getElem?_map, hr0]; rfl), r, _, rfl, .inr (x4.sqT (hrow3 _ _ hr0)), fun J G wk hG D2 hD2 => ?_⟩
    rw [lineV_len] at wk
    refine lcE (B := []) (Z := Z) wk hD2 (hG Z [] · (by simp)) (by have := ok.k4; omega) (fun j acc _ => acc = lineV j ((beg W place).mv i)) rfl (fun j acc2 x H6 H7 hj x6 ha6 hla6 hp6 hy => ?_) fun acc2 H6 x6 ha6 hp6 => ?_
    · obtain ⟨rfl, hx⟩ := hy
      obtain ⟨hc, rfl⟩ := lineV_get hx
      refine ⟨rfl, _, rfl, _, rfl, nl, _, _, .int (nm place (W.mv (nm place i) j) : Nat), rfl, rfl, SqL.of (x6.lst (x4.lst h3)), atI_nat (lineV_at (ok.mv _ hnm _ hc)), ?_⟩
      refine LcP.put x6 hD2 ha6 (by simp) hla6 (by have := ok.k4; omega) (Exb.refl _) ?_
      rw [hp6]
      exact lineV_succ j ((beg W place).mv i)
    · subst hp6
      refine ⟨D2, _, rfl, .inl ⟨SqL.of ha6, fun t nt => ?_⟩⟩
      have x7 : Ex Z H6 (upd H6 t (.tup (lineV W.k ((beg W place).mv i)))) := Ex.new nt
      have x67 := x6.trans x7
      exact LcP.put x4 hD ha (by simp) hla (by omega) x67 (hpi.step x67 (x67.lst ha) (SqT.of upd_same))
  · obtain ⟨ts, rfl, hts, hti⟩ := hpi
    rw [lineV_len] at hts
    refine ⟨_, rfl, _, rfl, nl, _, rfl, .inl (SqL.of (x4.lst h3)), _, rfl, by omega, by rw [lineV_len]; omega, fun D2 hD2 => ?_⟩
    refine lcE (B := []) (Z := Z) (walk_range (lo := 0) (n := (lineV W.n (nm place)).length)) hD2 (fun _ _ => trivial) (by rw [lineV_len]; omega) (fun j acc _ => acc = lineV j (beg W place).wd) rfl (fun i acc x H5 H6 hi x5 ha5 hla5 hp5 hy => ?_) fun acc H5 x5 ha5 hp5 => ?_
    · obtain ⟨rfl, rfl⟩ := hy
      rw [lineV_len] at hi
      have hnm := nm_lt hi hpl
      have x45 := x4.trans x5
      refine ⟨rfl, _, rfl, _, _, ((1 : Nat) : Int), .ref wd, rfl, rfl, x45.sqT hp3, atI_nat rfl, _, rfl, _, rfl, nl, _, _, .int (nm place i : Nat), rfl, rfl, SqL.of (x45.lst h3), atI_zero (lineV_at hi), ?_⟩
      refine ⟨wd, _, _, .int (W.wd (nm place i) : Nat), rfl, rfl, x45.sqT hwd3, atI_nat (lineV_at hnm), ?_⟩
      refine LcP.put x5 hD2 ha5 (by simp) hla5 (by omega) (Exb.refl _) ?_
      rw [hp5]
      exact lineV_succ i (beg W place).wd
    · subst hp5
      rw [lineV_len] at ha5
      refine fun x dx nx nd ne => ?_
      have x6 : Ex Z H5 (upd (upd H5 dx (.own x)) x (.ins C dx [])) := mk_ex nx nd ne
      have x36 := (x4.trans x5).trans x6
      refine ⟨x, D, D2, dx, beg W place, rfl, upd_same, ⟨ts, .inl (SqL.of ((x5.trans x6).lst ha)), hts, fun j t e => .inr ((x5.trans x6).sqT (hti j t e))⟩, .inl (SqL.of (x6.lst ha5)), beg_ok ok hpl, (x3.trans x36).2 hT, fun H' xb hW => ⟨rfl, hq x H' ((x3.trans (x4.trans x5)).trans (Exb.unb x6 nx xb)) hW⟩⟩
end
end K62
/-! ==== B62s ==== -/
namespace K62
open PySem PySem.Spec PyProof.Rows L2 Fx Od
section
variable {P : Program} {w : World} {K : PySem.W.Frag} {mg : Str → Option Value} {base : Heap} {C : Addr} {Z : List (Addr × Str)}
def spLawRow (K : PySem.W.Frag) (Z : List (Addr × Str)) : Sp := fun vs H Q _ => ∃ tp al cl p W most, vs = [.ref tp, .ref p, .int (most : Nat)] ∧ TapeAt H tp al cl ∧ RawAt K H p W ∧ W.Ok ∧ most ≤ 20 ∧
  ∀ t n g H', n ≤ most → (∀ c < n, g c < W.k) → SqT K H' t (lineV n g) → ExD Z tp al H H' → TapeAt H' tp al cl → Q (.ref t) H'
theorem sc_law_row : FnScope ["tape", "watch", "most", "item"] ["tape", "watch", "most"] (defScope s_law_row) := ⟨rfl, rfl, rfl, by decide +kernel, rfl, by decide +kernel, by decide +kernel⟩
theorem row_ok (T : Txt K mg C) (D : Df K mg "_law_row" s_law_row []) (c_law_draw : C8.Cal P w K mg base 2 "_law_draw" (spDraw Z) []) : C8.Cal P w K mg base 3 "_law_row" (spLawRow K Z) [] := by
  refine D.cal (k := 2) sc_law_row (by intro kV doc pm an cdv ct us h; match us, h with | [_, _, _], _ => rfl) (by rintro _ _ _ _ ⟨_, _, _, _, _, _, rfl, _⟩; rfl) ?_
  rintro f cdv A outer s H _ Q E hr ⟨tp, al, cl, p, W, most, rfl, hT, hR, ok, hm, hq⟩
  have n1 := ok.n1
  have k1 := ok.k1
  have k4 := ok.k4
  refine ⟨_, (pss_one (ps_ret (pe_callTy (tupK (K := K) rfl) (by rfl) T.tuple bt_tuple (pa_cons (pe_lc (own := [("item", 3)]) rfl sc_law_row.nd (pi_range1 (by rfl) T.range (pa_cons (C8.pe_c c_law_draw hr (by decide) (by rfl) (pa_cons (pv 0) (pa_cons (pe_op op_add (pv 2) pe_int) pa_nil))) pa_nil)) (blkOk_by (own := [("item", 3)]) (N := ["tape", "watch", "most", "item"]) (sc := defScope s_law_row) (by decide +kernel)) (fun _ _ _ _ _ => (pg_name (i := 3) sc_law_row.nd rfl (by first | exact Or.inl rfl | exact Or.inr rfl))) (fun _ _ _ _ _ => pts_nil) (fun _ _ _ _ _ => (C8.pe_c c_law_draw hr (by decide) (by rfl) (pa_cons (pv 0) (pa_cons (pe_callB (lenK (K := K) rfl) (by rfl) T.len bt_len (pa_cons (pe_ix (ixtK (K := K) rfl) (pe_ix (ixtK (K := K) rfl) (pv 1) pe_int (fun _ _ => rfl)) pe_int (fun _ _ => rfl)) pa_nil)) pa_nil))))) pa_nil)))), ?_⟩
  refine ⟨_, rfl, _, rfl, _, _, rfl, rfl, tp, al, cl, most + 1, rfl, hT, by omega, by omega, fun n H1 hn x1 hT1 => ?_⟩
  have hR1 := hR.exb x1 hT.ml
  refine ⟨_, rfl, by omega, by omega, fun D hD => ?_⟩
  have nD := hT1.new hD
  refine lcE (B := [tp, al]) (Z := Z) (walk_range (lo := 0) (n := n)) hD (fun _ _ => trivial) (by omega) (PiL tp al cl W.k) ⟨hT1.put nD.1 nD.2.1 nD.2.2, fun _ => 0, rfl, fun c hc => by omega⟩ (fun j acc2 x H4 H5 hj x4 ha4 hla4 hp4 hy => ?_) fun acc2 H4 x4 ha4 hp4 => ?_
  · obtain ⟨rfl, rfl⟩ := hy
    obtain ⟨m, wd, rs, h1, h2, h3, h4, h5⟩ := hR1.exb x4 hT1.ml
    obtain ⟨r0, h0⟩ : ∃ r0, rs[0]? = some r0 := ⟨rs[0]'(by omega), List.getElem?_eq_getElem (by omega)⟩
    refine ⟨rfl, _, rfl, _, rfl, _, _, ((0 : Nat) : Int), .ref m, rfl, rfl, h1, atI_nat rfl, m, _, ((0 : Nat) : Int), .ref r0, rfl, rfl, h2, atI_nat (by rw [List.getElem?_map, h0]; rfl), r0, _, rfl, .inr (h4 0 r0 h0), ?_⟩
    rw [lineV_len]
    refine ⟨tp, al, cl, W.k, rfl, hp4.1, by omega, by omega, fun v H6 hv x6 hT6 => ?_⟩
    exact LcP.put x4 hD ha4 (by simp [nD.1, nD.2.1]) hla4 (by omega) x6 (hp4.step hT6 nD hv)
  · obtain ⟨hT4, g, rfl, hg⟩ := hp4
    refine ⟨D, _, rfl, .inl ⟨SqL.of ha4, fun t nt => ?_⟩⟩
    have x5 : Ex Z H4 (upd H4 t (.tup (lineV n g))) := Ex.new nt
    exact hq t n g _ (by omega) hg (SqT.of upd_same) ((x1.trans x4).trans x5.any) (hT4.ex x5)
def spLawShown (K : PySem.W.Frag) (Z : List (Addr × Str)) : Sp := fun vs H Q _ => ∃ tp al cl p W most, vs = [.ref tp, .ref p, .int (most : Nat)] ∧ TapeAt H tp al cl ∧ RawAt K H p W ∧ W.Ok ∧ most ≤ 20 ∧
  ∀ t r H', r.length ≤ most → Od.Row.Ok W.k r → SqT K H' t (rowV r) → ExD Z tp al H H' → TapeAt H' tp al cl → Q (.ref t) H'
theorem sc_law_shown_row : FnScope ["tape", "watch", "most", "kind"] ["tape", "watch", "most"] (defScope s_law_shown_row) := ⟨rfl, rfl, rfl, by decide +kernel, rfl, by decide +kernel, by decide +kernel⟩
theorem rowV_snoc (r : Od.Row) (x : Option Nat) : rowV r ++ [itemV x] = rowV (r ++ [x]) := by
  unfold rowV
  rw [List.map_append]
  rfl
theorem shown_ok (T : Txt K mg C) (D : Df K mg "_law_shown_row" s_law_shown_row []) (c_law_draw : C8.Cal P w K mg base 2 "_law_draw" (spDraw Z) []) (c_law_row : C8.Cal P w K mg base 3 "_law_row" (spLawRow K Z) []) : C8.Cal P w K mg base 4 "_law_shown_row" (spLawShown K Z) [] := by
  refine D.cal (k := 3) sc_law_shown_row (by intro kV doc pm an cdv ct us h; match us, h with | [_, _, _], _ => rfl) (by rintro _ _ _ _ ⟨_, _, _, _, _, _, rfl, _⟩; rfl) ?_
  rintro f cdv A outer s H _ Q E hr ⟨tp, al, cl, p, W, most, rfl, hT, hR, ok, hm, hq⟩
  refine ⟨_, (pss_one (ps_ret (pe_callTy (tupK (K := K) rfl) (by rfl) T.tuple bt_tuple (pa_cons (pe_lc (own := [("kind", 3)]) rfl sc_law_shown_row.nd (pi_tup (C8.pe_c c_law_row hr (by decide) (by rfl) (pa_cons (pv 0) (pa_cons (pv 1) (pa_cons (pv 2) pa_nil))))) (blkOk_by (own := [("kind", 3)]) (N := ["tape", "watch", "most", "kind"]) (sc := defScope s_law_shown_row) (by decide +kernel)) (fun _ _ _ _ _ => (pg_name (i := 3) sc_law_shown_row.nd rfl (by first | exact Or.inl rfl | exact Or.inr rfl))) (fun _ _ _ _ _ => pts_nil) (fun _ _ _ _ _ => (pe_ifExp (pt_cmpR op_eq (C8.pe_c c_law_draw hr (by decide) (by rfl) (pa_cons (pv 0) (pa_cons pe_int pa_nil))) pe_int (nomark _)) pe_non (pv 3)))) pa_nil)))), ?_⟩
  refine ⟨_, rfl, _, rfl, _, rfl, tp, al, cl, p, W, most, rfl, hT, hR, ok, hm, fun t n g H1 hn hg ht x1 hT1 => ?_⟩
  refine ⟨t, rfl, ⟨_, ht⟩, fun D hD => ?_⟩
  have nD := hT1.new hD
  refine lcE (B := [tp, al]) (Z := Z) (walk_tup (K := K) (a := t) (xs := lineV n g)) hD (fun H x => SqT.exb x hT1.ml ht) (by rw [lineV_len]; omega) (fun i acc H => TapeAt H tp al cl ∧ ∃ r : Od.Row, acc = rowV r ∧ r.length = i ∧ Od.Row.Ok W.k r) ⟨hT1.put nD.1 nD.2.1 nD.2.2, [], rfl, rfl, fun c hc => by cases hc⟩ (fun j acc2 x H4 H5 hj x4 ha4 hla4 hp4 hy => ?_) fun acc2 H4 x4 ha4 hp4 => ?_
  · obtain ⟨rfl, hx⟩ := hy
    rw [lineV_len] at hj
    obtain ⟨hjn, rfl⟩ := lineV_get hx
    obtain ⟨hT4, r, rfl, hrl, hrk⟩ := hp4
    refine ⟨rfl, _, rfl, tp, al, cl, 2, rfl, hT4, by omega, by omega, fun v H6 hv x6 hT6 => ?_⟩
    have fin : ∀ x : Option Nat, (∀ c, x = some c → c < W.k) → ∃ acc, H6 D = some (.lst acc) ∧ acc.length < sizeLine ∧ LcP Z [tp, al] H1 D (fun i acc H => TapeAt H tp al cl ∧ ∃ r : Od.Row, acc = rowV r ∧ r.length = i ∧ Od.Row.Ok W.k r) (j + 1) (upd H6 D (.lst (acc ++ [itemV x]))) := fun x hxk => by
      refine LcP.put x4 hD ha4 (by simp [nD.1, nD.2.1]) hla4 (by omega) x6 ⟨hT6.put nD.1 nD.2.1 nD.2.2, r ++ [x], rowV_snoc r x, by simp [hrl], fun c hc => ?_⟩
      rcases List.mem_append.mp hc with h | h
      · exact hrk c h
      · exact hxk c (List.mem_singleton.mp h).symm
    by_cases h0 : v = 0
    · refine ⟨rfl, true, eqT (by rw [h0]; rfl), fin none (fun c e => by cases e)⟩
    · refine ⟨rfl, false, eqF (fun z => h0 (by have := V.int.inj z; omega)), _, rfl, fin (some (g j)) (fun c e => by rw [← Option.some.inj e]; exact hg j hjn)⟩
  · obtain ⟨hT4, r, rfl, hrl, hrk⟩ := hp4
    rw [lineV_len] at hrl
    refine ⟨D, _, rfl, .inl ⟨SqL.of ha4, fun t nt => ?_⟩⟩
    have x5 : Ex Z H4 (upd H4 t (.tup (rowV r))) := Ex.new nt
    exact hq t r _ (by omega) hrk (SqT.of upd_same) ((x1.trans x4).trans x5.any) (hT4.ex x5)
end
end K62
/-! ==== B62t ==== -/
namespace K62
open PySem PySem.Spec PyProof.Rows L2 Fx Od
section
variable {P : Program} {w : World} {K : PySem.W.Frag} {mg : Str → Option Value} {base : Heap} {C : Addr} {Z : List (Addr × Str)}
/-! ### weights, the tape's begin -/
def spLawWeights (Z : List (Addr × Str)) : Sp := fun vs H Q _ => ∃ tp al cl k, vs = [.ref tp, .int (k : Nat)] ∧ TapeAt H tp al cl ∧ k ≤ 4 ∧
  ∀ l ws H', (∀ c < k, 1 ≤ ws c ∧ ws c ≤ 30) → H' l = some (.lst (lineV k ws)) → l ≠ tp ∧ l ≠ al ∧ l ≠ cl → ExD Z tp al H H' → TapeAt H' tp al cl → Q (.ref l) H'
theorem sc_law_weights : FnScope ["tape", "kinds", "kind"] ["tape", "kinds"] (defScope s_law_weights) := ⟨rfl, rfl, rfl, by decide +kernel, rfl, by decide +kernel, by decide +kernel⟩
theorem lweights_ok (T : Txt K mg C) (D : Df K mg "_law_weights" s_law_weights []) (c_law_draw : C8.Cal P w K mg base 2 "_law_draw" (spDraw Z) []) (c_law_pick : C8.Cal P w K mg base 3 "_law_pick" (spPick Z) []) : C8.Cal P w K mg base 4 "_law_weights" (spLawWeights Z) [] := by
  refine D.cal (k := 3) sc_law_weights (by intro kV doc pm an cdv ct us h; match us, h with | [_, _], _ => rfl) (by rintro _ _ _ _ ⟨_, _, _, _, rfl, _⟩; rfl) ?_
  rintro f cdv A outer s H _ Q E hr ⟨tp, al, cl, k, rfl, hT, k4, hq⟩
  refine ⟨_, (pss_one (ps_ret (pe_lc (own := [("kind", 2)]) rfl sc_law_weights.nd (pi_range1 (by rfl) T.range (pa_cons (pv 1) pa_nil)) (blkOk_by (own := [("kind", 2)]) (N := ["tape", "kinds", "kind"]) (sc := defScope s_law_weights) (by decide +kernel)) (fun _ _ _ _ _ => (pg_name (i := 2) sc_law_weights.nd rfl (by first | exact Or.inl rfl | exact Or.inr rfl))) (fun _ _ _ _ _ => pts_nil) (fun _ _ _ _ _ => (C8.pe_c c_law_pick hr (by decide) (by rfl) (pa_cons (pv 0) (pa_cons (pe_lst (pa_cons pe_int (pa_cons pe_int (pa_cons pe_int (pa_cons pe_int (pa_cons pe_int (pa_cons (pe_op op_add pe_int (C8.pe_c c_law_draw hr (by decide) (by rfl) (pa_cons (pv 0) (pa_cons pe_int pa_nil)))) pa_nil))))))) pa_nil))))))), ?_⟩
  refine ⟨_, rfl, (k : Nat), rfl, by omega, by omega, fun D hD => ?_⟩
  have nD := hT.new hD
  refine lcE (B := [tp, al]) (Z := Z) (walk_range (lo := 0) (n := k)) hD (fun _ _ => trivial) (by omega) (fun i acc H => TapeAt H tp al cl ∧ ∃ g : Nat → Nat, acc = lineV i g ∧ ∀ c < i, 1 ≤ g c ∧ g c ≤ 30) ⟨hT.put nD.1 nD.2.1 nD.2.2, fun _ => 0, rfl, fun c hc => by omega⟩ (fun j acc2 x H4 H5 hj x4 ha4 hla4 hp4 hy => ?_) fun acc2 H4 x4 ha4 hp4 => ?_
  · obtain ⟨rfl, rfl⟩ := hy
    obtain ⟨hT4, g, rfl, hg⟩ := hp4
    refine ⟨rfl, _, rfl, _, rfl, tp, al, cl, 30, rfl, hT4, by omega, by omega, fun v H6 hv x6 hT6 => ?_⟩
    refine ⟨_, _, rfl, rfl, by show 6 ≤ sizeLine; decide, fun l nl => ?_⟩
    have x7 : Ex Z H6 (upd H6 l (.lst [.int 1, .int 1, .int 2, .int 3, .int 5, .int ((1 : Int) + (v : Int))])) := Ex.new nl
    have nl7 := hT6.new nl
    have nlD : l ≠ D := fun z => by
      have := x6.lstb (by simp [nD.1, nD.2.1]) ha4
      rw [← z, nl] at this
      cases this
    refine ⟨tp, al, cl, l, _, rfl, hT6.ex x7, upd_same, nl7.1, nl7.2.1, by show 0 < 6; decide, by show 6 < 2 ^ 64; decide, fun y H8 hy8 x8 hT8 => ?_⟩
    have x48 := (x6.trans x7.any).trans x8
    obtain ⟨m, rfl, hm⟩ : ∃ m : Nat, y = .int (m : Nat) ∧ (1 ≤ m ∧ m ≤ 30) := by
      simp only [List.mem_cons, List.not_mem_nil, or_false] at hy8
      rcases hy8 with rfl | rfl | rfl | rfl | rfl | rfl
      · exact ⟨1, rfl, by omega⟩
      · exact ⟨1, rfl, by omega⟩
      · exact ⟨2, rfl, by omega⟩
      · exact ⟨3, rfl, by omega⟩
      · exact ⟨5, rfl, by omega⟩
      · exact ⟨1 + v, congrArg V.int (by omega), by omega⟩
    refine LcP.put x4 hD ha4 (by simp [nD.1, nD.2.1]) hla4 (by omega) x48 ⟨hT8.put nD.1 nD.2.1 nD.2.2, _, lineV_snoc j g m, fun c hc => ?_⟩
    show 1 ≤ (if c = j then m else g c) ∧ (if c = j then m else g c) ≤ 30
    by_cases e : c = j
    · rw [if_pos e]
      exact hm
    · rw [if_neg e]
      exact hg c (by omega)
  · obtain ⟨hT4, g, rfl, hg⟩ := hp4
    exact hq D g H4 hg ha4 nD x4 hT4
def spLawBegun (K : PySem.W.Frag) (Z : List (Addr × Str)) : Sp := fun vs H Q _ => ∃ (a : Addr) (ns : List Int), vs = [.ref a] ∧ SqL K H a (ns.map V.int) ∧ ns.length ≤ 1000 ∧ ∀ tp al cl H', Ex Z H H' → TapeAt H' tp al cl → Q (.ref tp) H'
theorem sc_law_begun : FnScope ["script", "large", "grain"] ["script"] (defScope s_law_begun) := ⟨rfl, rfl, rfl, by decide +kernel, rfl, by decide +kernel, by decide +kernel⟩
theorem begun_ok (T : Txt K mg C) (D : Df K mg "_law_begun" s_law_begun []) : C8.Cal P w K mg base 1 "_law_begun" (spLawBegun K Z) [] := by
  refine D.cal (k := 0) sc_law_begun (by intro kV doc pm an cdv ct us h; match us, h with | [_], _ => rfl) (by rintro _ _ _ _ ⟨_, _, rfl, _⟩; rfl) ?_
  rintro f cdv A outer s H _ Q E hr ⟨a, ns, rfl, hs, hl, hq⟩
  refine ⟨_, (pss_cons (ps_setLc (i := 1) (own := [("grain", 2)]) rfl sc_law_begun.nd rfl rfl (sw_true rfl rfl rfl (by decide +kernel)) (pi_seqK (K := K) rfl (pv 0)) (blkOk_by (own := [("grain", 2)]) (N := ["script", "large", "grain"]) (sc := defScope s_law_begun) (by decide +kernel)) (fun _ _ _ _ _ => (pg_name (i := 2) sc_law_begun.nd rfl (by first | exact Or.inl rfl | exact Or.inr rfl))) (fun _ _ _ _ _ => pts_one (pt_cmpR op_ge (pe_callB call_abs (by rfl) T.abs bt_abs (pa_cons (pv 2) pa_nil)) (pe_op op_pow pe_int pe_int) (nomark _))) (fun _ _ _ _ _ => (pe_op op_sub (pe_callB call_abs (by rfl) T.abs bt_abs (pa_cons (pv 2) pa_nil)) (pe_op op_pow pe_int pe_int))))
      (pss_one (ps_ret (pe_disp (pps_cons pe_str (pv 1) (pps_cons pe_str pe_int (pps_cons pe_str (pe_lc (own := [("grain", 2)]) rfl sc_law_begun.nd (pi_seqK (K := K) rfl (pv 0)) (blkOk_by (own := [("grain", 2)]) (N := ["script", "large", "grain"]) (sc := defScope s_law_begun) (by decide +kernel)) (fun _ _ _ _ _ => (pg_name (i := 2) sc_law_begun.nd rfl (by first | exact Or.inl rfl | exact Or.inr rfl))) (fun _ _ _ _ _ => pts_nil) (fun _ _ _ _ _ => (pe_callB call_abs (by rfl) T.abs bt_abs (pa_cons (pv 2) pa_nil)))) (pps_cons pe_str pe_int pps_nil)))) (by rfl) (by rfl) (fun z => by cases z) (by decide))))), ?_⟩
  have geti : ∀ {i : Nat} {x : V}, (ns.map V.int)[i]? = some x → ∃ n, x = .int n := fun {i x} h => by
    rw [List.getElem?_map] at h
    cases q : ns[i]? with
    | none => rw [q] at h; cases h
    | some n => rw [q] at h; exact ⟨n, (Option.some.inj h).symm⟩
  refine ⟨_, rfl, a, _, rfl, .inl hs, fun J G wk hG D hD => ?_⟩
  rw [List.length_map] at wk
  refine lcE (B := []) (Z := Z) wk hD (hG Z [] · (by simp)) (by omega) (fun i acc _ => ∃ l : List Int, acc = l.map V.int) ⟨[], rfl⟩ (fun i acc x H3 H4 hi x3 ha hla hpi hy => ?_) fun acc H3 x3 ha hpi => ?_
  · obtain ⟨rfl, hx⟩ := hy
    obtain ⟨n, rfl⟩ := geti hx
    obtain ⟨l, rfl⟩ := hpi
    have cp : CPow 10 18 := ⟨by decide, by decide, by decide⟩
    by_cases hge : ((10 : Int) ^ (18 : Int).toNat) ≤ (if n < 0 then -n else n)
    · refine ⟨rfl, _, rfl, _, rfl, _, _, rfl, rfl, cp, _, _, rfl, rfl, true, blT hge, ?_⟩
      refine ⟨_, rfl, _, rfl, _, _, rfl, rfl, cp, _, _, rfl, rfl, ?_⟩
      exact LcP.put x3 hD ha (by simp) hla (by omega) (Exb.refl _) ⟨l ++ [(if n < 0 then -n else n) - (10 : Int) ^ (18 : Int).toNat], by simp⟩
    · refine ⟨rfl, _, rfl, _, rfl, _, _, rfl, rfl, cp, _, _, rfl, rfl, false, blF hge, x3, _, ha, by omega, l, rfl⟩
  · obtain ⟨large, rfl⟩ := hpi
    refine fun p np => ?_
    have x4 : Ex Z H3 (upd H3 p (.dK [])) := Ex.new np
    have hp4 : upd H3 p (.dK []) p = some (.dK []) := upd_same
    have ha4 := x4.lst ha
    have nDp : D ≠ p := fun z => by rw [z, np] at ha; cases ha
    generalize upd H3 p (.dK []) = H4 at x4 hp4 ha4
    have x04 := x3.trans x4
    refine ⟨_, rfl, _, rfl, a, _, rfl, .inl (x04.sqL hs), fun J G wk hG D2 hD2 => ?_⟩
    rw [List.length_map] at wk
    refine lcE (B := []) (Z := Z) wk hD2 (hG Z [] · (by simp)) (by omega) (fun i acc _ => ∃ l : List Int, acc = l.map V.int) ⟨[], rfl⟩ (fun i acc x H5 H6 hi x5 ha5 hla5 hp5 hy => ?_) fun acc H5 x5 ha5 hp5 => ?_
    · obtain ⟨rfl, hx⟩ := hy
      obtain ⟨n, rfl⟩ := geti hx
      obtain ⟨l, rfl⟩ := hp5
      refine ⟨rfl, _, rfl, _, rfl, ?_⟩
      exact LcP.put x5 hD2 ha5 (by simp) hla5 (by omega) (Exb.refl _) ⟨l ++ [if n < 0 then -n else n], by simp⟩
    · obtain ⟨cells, rfl⟩ := hp5
      have hp5' := x5.dk hp4
      have nDD : D2 ≠ D := fun z => by rw [z, ha4] at hD2; cases hD2
      have nDp2 : D2 ≠ p := fun z => by rw [z, hp4] at hD2; cases hD2
      refine ⟨hp5', [(Sum.inr "large", .ref D), (Sum.inr "rest", .int 0), (Sum.inr "cells", .ref D2), (Sum.inr "turn", .int 0)], rfl, by show 4 ≤ 15; decide, ?_⟩
      have x6 : Ex Z H (upd H5 p (.dK (mergeK [] [(Sum.inr "large", .ref D), (Sum.inr "rest", .int 0), (Sum.inr "cells", .ref D2), (Sum.inr "turn", .int 0)]))) := x3.trans ((x4.trans x5).mut (.inr np) (Mb.of hp5' trivial))
      refine hq p D D2 _ x6 ⟨0, 0, large, cells, ?_, ?_, ?_, nDD⟩
      · rw [upd_same]
        rfl
      · rw [upd_ne nDp]
        exact x5.lst ha4
      · rw [upd_ne nDp2]
        exact ha5
end
end K62
/-! ==== B62u ==== -/
namespace K62
open PySem PySem.Spec PyProof.Rows L2 Fx Od
section
variable {P : Program} {w : World} {K : PySem.W.Frag} {mg : Str → Option Value} {base : Heap} {C : Addr} {Z : List (Addr × Str)}
def spCommon : Sp := fun vs H Q _ => ∃ a b : Nat, vs = [.int (a : Nat), .int (b : Nat)] ∧ a * b < 2 ^ 15000 ∧ Q (.int (Nat.gcd a b : Nat)) H
theorem sc_law_common : FnScope ["one", "other", "lap"] ["one", "other"] (defScope s_law_common) := ⟨rfl, rfl, rfl, by decide +kernel, rfl, by decide +kernel, by decide +kernel⟩
theorem common_ok (T : Txt K mg C) (D : Df K mg "_law_common" s_law_common []) : C8.Cal P w K mg base 1 "_law_common" spCommon [] := by
  refine D.cal (k := 0) sc_law_common (by intro kV doc pm an cdv ct us h; match us, h with | [_, _], _ => rfl) (by rintro _ _ _ _ ⟨_, _, rfl, _⟩; rfl) ?_
  rintro f cdv A outer s H _ Q E hr ⟨a, b, rfl, hab, hq⟩
  refine ⟨_, (pss_cons (ps_for PassesOwn.never rfl (pi_range1 (by rfl) T.range (pa_cons pe_int pa_nil)) (pg_name (i := 2) sc_law_common.nd rfl (by first | exact Or.inl rfl | exact Or.inr rfl))
      (pss_cons (ps_if (pt_cmpR op_eq (pv 1) pe_int (nomark _)) (pss_one (ps_ret (pv 0))) pss_nil)
      (pss_one (ps_par rfl sc_law_common.nd (i := 0) (j := 1) rfl rfl (by decide) rfl rfl (pa_cons (pv 1) (pa_cons (pe_op op_mod (pe_callTy call_int1 (by rfl) T.int bt_int (pa_cons (pv 0) pa_nil)) (pv 1)) pa_nil)) (by rfl)))))
      (pss_one (ps_ret (pv 0)))), ?_⟩
  refine ⟨20000, rfl, by decide, by decide, for_range (lo := 0) (n := 20000) (fun i σ H' => H' = H ∧ ∃ (x y : Nat) (u : Option V), σ = [some (.int (x : Nat)), some (.int (y : Nat)), u] ∧ Nat.gcd x y = Nat.gcd a b ∧ ((i = 0 ∧ x = a ∧ y = b) ∨ (0 < i ∧ y < x ∧ x * y * 2 ^ (i - 1) ≤ a * b))) ⟨rfl, a, b, _, rfl, rfl, .inl ⟨rfl, rfl, rfl⟩⟩ (fun i σ H' hi ⟨hH, x, y, u, hσ, hg, hinv⟩ => ?_) fun σ H' ⟨hH, x, y, u, hσ, hg, hinv⟩ => ?_⟩
  · subst hH hσ
    by_cases hy : y = 0
    · subst hy
      refine ⟨_, rfl, rfl, true, rfl, _, rfl, ?_⟩
      rw [Nat.gcd_zero_right] at hg
      rw [← hg] at hq
      exact hq
    · have y0 : 0 < y := Nat.pos_of_ne_zero hy
      refine ⟨_, rfl, rfl, false, eqF (fun z => hy (by have := V.int.inj z; omega)), ?_⟩
      refine ⟨_, rfl, _, rfl, .inl ⟨_, rfl, _, rfl, _, _, rfl, rfl, by omega, _, _, rfl, rfl, y, x % y, _, rfl, ?_, .inr ⟨by omega, Nat.mod_lt x y0, ?_⟩⟩⟩
      · rw [← hg, Nat.gcd_comm x y, Nat.gcd_rec y x, Nat.gcd_comm]
      · rcases hinv with ⟨h0, h1, h2⟩ | ⟨h0, h1, h2⟩
        · rw [h0, h1, h2]
          show b * (a % b) * 1 ≤ a * b
          rw [Nat.mul_one, Nat.mul_comm a b]
          exact Nat.mul_le_mul_left b (Nat.mod_le a b)
        · obtain ⟨j, rfl⟩ : ∃ j, i = j + 1 := ⟨i - 1, by omega⟩
          refine Nat.le_trans ?_ h2
          show y * (x % y) * 2 ^ (j + 1) ≤ x * y * 2 ^ j
          rw [Nat.pow_succ, Nat.mul_comm (2 ^ j) 2, ← Nat.mul_assoc]
          exact Nat.mul_le_mul_right _ (lap_half h1 y0)
  · subst hH hσ
    have y0 : y = 0 := by
      rcases hinv with ⟨h0, _⟩ | ⟨_, h1, h2⟩
      · cases h0
      · rcases Nat.eq_zero_or_pos y with z | z
        · exact z
        · exfalso
          have h3 : 1 * 2 ^ (20000 - 1) ≤ x * y * 2 ^ (20000 - 1) := Nat.mul_le_mul_right _ (Nat.mul_pos (by omega) z)
          have h4 : (2 : Nat) ^ 15000 ≤ 2 ^ (20000 - 1) := Nat.pow_le_pow_right (by decide) (by decide)
          rw [Nat.one_mul] at h3
          exact absurd (Nat.lt_of_le_of_lt (Nat.le_trans h3 h2) hab) (Nat.not_lt.mpr h4)
    subst y0
    rw [Nat.gcd_zero_right] at hg
    rw [← hg] at hq
    exact ⟨_, rfl, hq⟩
def spLawFraction (Z : List (Addr × Str)) : Sp := fun vs H Q _ => ∃ a b : Nat, vs = [.int (a : Nat), .int (b : Nat)] ∧ 0 < b ∧ b < 2 ^ 9000 ∧ a * b < 2 ^ 15000 ∧ ∀ p H', Ex Z H H' → FracAt H' p (frac a b) → Q (.ref p) H'
theorem sc_law_fraction : FnScope ["top", "bottom", "common"] ["top", "bottom"] (defScope s_law_fraction) := ⟨rfl, rfl, rfl, by decide +kernel, rfl, by decide +kernel, by decide +kernel⟩
theorem lfraction_ok (D : Df K mg "_law_fraction" s_law_fraction []) (c_law_common : C8.Cal P w K mg base 1 "_law_common" spCommon []) : C8.Cal P w K mg base 2 "_law_fraction" (spLawFraction Z) [] := by
  refine D.cal (k := 1) sc_law_fraction (by intro kV doc pm an cdv ct us h; match us, h with | [_, _], _ => rfl) (by rintro _ _ _ _ ⟨_, _, rfl, _⟩; rfl) ?_
  rintro f cdv A outer s H _ Q E hr ⟨a, b, rfl, hb, hb2, hab, hq⟩
  refine ⟨_, (pss_cons (ps_set (i := 2) sc_law_fraction.nd rfl (by first | exact Or.inl rfl | exact Or.inr rfl) (C8.pe_c c_law_common hr (by decide) (by rfl) (pa_cons (pv 0) (pa_cons (pv 1) pa_nil))))
      (pss_one (ps_ret (pe_tup (pa_cons (pe_op op_fdivW (pv 0) (pv 2)) (pa_cons (pe_op op_fdivW (pv 1) (pv 2)) pa_nil)))))), ?_⟩
  have g0 : 0 < Nat.gcd a b := Nat.gcd_pos_of_pos_right _ hb
  have g1 : Nat.gcd a b ≤ b := Nat.le_of_dvd hb (Nat.gcd_dvd_right a b)
  have wd : CDivW (a : Int) ((Nat.gcd a b : Nat) : Int) := wide_div (b := 9000) (by omega) (by rw [Int.natAbs_natCast]; exact Nat.lt_of_le_of_lt g1 hb2) (by decide) (by decide)
  have wd2 : CDivW (b : Int) ((Nat.gcd a b : Nat) : Int) := wd
  refine ⟨_, rfl, _, rfl, a, b, rfl, hab, _, rfl, _, rfl, _, _, rfl, rfl, wd, _, rfl, _, rfl, _, _, rfl, rfl, wd2, by show 2 ≤ sizeLine; decide, fun p np => hq p _ (Ex.new np) upd_same⟩
def spLawSum (K : PySem.W.Frag) (Z : List (Addr × Str)) : Sp := fun vs H Q _ => ∃ (l : Addr) (as : List Addr) (fs : List (Nat × Nat)), vs = [.ref l] ∧ SqL K H l (as.map V.ref) ∧ as.length = fs.length ∧ fs.length ≤ 2 ∧ (∀ (i : Nat) (a : Addr), as[i]? = some a → ∃ f, fs[i]? = some f ∧ FracAt H a f) ∧
  (∀ f ∈ fs, f.1 < 2 ^ 3000 ∧ f.2 < 2 ^ 3000 ∧ 0 < f.2) ∧ ∀ p H', Ex Z H H' → FracAt H' p (frac (sumF fs).1 (sumF fs).2) → Q (.ref p) H'
theorem sc_law_sum : FnScope ["several", "top", "bottom", "one", "other"] ["several"] (defScope s_law_sum) := ⟨rfl, rfl, rfl, by decide +kernel, rfl, by decide +kernel, by decide +kernel⟩
theorem lsum_ok (T : Txt K mg C) (D : Df K mg "_law_sum" s_law_sum []) (c_law_fraction : C8.Cal P w K mg base 2 "_law_fraction" (spLawFraction Z) []) : C8.Cal P w K mg base 3 "_law_sum" (spLawSum K Z) [] := by
  refine D.cal (k := 2) sc_law_sum (by intro kV doc pm an cdv ct us h; match us, h with | [_], _ => rfl) (by rintro _ _ _ _ ⟨_, _, _, rfl, _⟩; rfl) ?_
  rintro f cdv A outer s H _ Q E hr ⟨l, as, fs, rfl, hs, hl, h2, hfr, hb, hq⟩
  refine ⟨_, (pss_cons (ps_asg (pe_tup (pa_cons pe_int (pa_cons pe_int pa_nil))) (pg_tupK (K := K) (n := 2) rfl rfl (pgs_cons (pg_name (i := 1) sc_law_sum.nd rfl (by first | exact Or.inl rfl | exact Or.inr rfl)) (pgs_cons (pg_name (i := 2) sc_law_sum.nd rfl (by first | exact Or.inl rfl | exact Or.inr rfl)) pgs_nil))))
      (pss_cons (ps_for PassesOwn.never rfl (pi_seqK (K := K) rfl (pv 0)) (pg_tupK (K := K) (n := 2) rfl rfl (pgs_cons (pg_name (i := 3) sc_law_sum.nd rfl (by first | exact Or.inl rfl | exact Or.inr rfl)) (pgs_cons (pg_name (i := 4) sc_law_sum.nd rfl (by first | exact Or.inl rfl | exact Or.inr rfl)) pgs_nil)))
      (pss_one (ps_par rfl sc_law_sum.nd (i := 1) (j := 2) rfl rfl (by decide) rfl rfl (pa_cons (pe_op op_add (pe_op op_mulW (pv 1) (pv 4)) (pe_op op_mulW (pv 3) (pv 2))) (pa_cons (pe_op op_mulW (pv 2) (pv 4)) pa_nil)) (by rfl))))
      (pss_one (ps_ret (C8.pe_c c_law_fraction hr (by decide) (by rfl) (pa_cons (pv 1) (pa_cons (pv 2) pa_nil))))))), ?_⟩
  refine ⟨by show 2 ≤ sizeLine; decide, fun tq ntq => ⟨_, _, rfl, SqT.of upd_same, rfl, _, _, rfl, _, _, rfl, rfl, ?_⟩⟩
  have x0 : Ex Z H (upd H tq (.tup [.int 0, .int 1])) := Ex.new ntq
  generalize upd H tq (.tup [.int 0, .int 1]) = H0 at x0
  refine ⟨_, rfl, _, _, rfl, .inl (x0.sqL hs), fun J G wk hG => ?_⟩
  rw [List.length_map] at wk
  have bnd : ∀ i, (sumF (fs.take i)).1 < 2 ^ 6002 ∧ (sumF (fs.take i)).2 < 2 ^ 6002 := fun i => sumF_lt (b := 3000) (by rw [List.length_take]; omega) fun f hf => by
    have := hb f (List.mem_of_mem_take hf)
    exact ⟨this.1, this.2.1⟩
  refine for_it wk (fun i σ H' => H' = H0 ∧ ∃ u3 u4, σ = [some (.ref l), some (.int ((sumF (fs.take i)).1 : Nat)), some (.int ((sumF (fs.take i)).2 : Nat)), u3, u4]) ⟨rfl, _, _, rfl⟩ (fun i σ H' _ ⟨e, _⟩ => by rw [e]; exact hG Z [] H0 (by simp) (Exb.refl _)) (fun i x σ H1 H2 hi ⟨hH, u3, u4, hσ⟩ hy => ?_) fun σ H1 ⟨hH, u3, u4, hσ⟩ => ?_
  · subst hH hσ
    obtain ⟨rfl, hx⟩ := hy
    rw [List.getElem?_map, List.getElem?_eq_getElem hi] at hx
    obtain rfl := Option.some.inj hx
    obtain ⟨fr, hf, hfa⟩ := hfr i _ (List.getElem?_eq_getElem hi)
    have hfb := hb fr (List.mem_of_getElem? hf)
    have b1 := bnd i
    have hfa0 : FracAt H2 as[i] fr := hfa.ex x0
    refine ⟨_, _, rfl, SqT.of hfa0, rfl, _, _, rfl, _, _, rfl, rfl, ?_⟩
    have w1 : CMulW (((sumF (fs.take i)).1 : Nat) : Int) ((fr.2 : Nat) : Int) := wide_mul (a := 6002) (b := 3000) (by rw [Int.natAbs_natCast]; exact b1.1) (by rw [Int.natAbs_natCast]; exact hfb.2.1) (by decide) (by decide) (by decide)
    have w2 : CMulW ((fr.1 : Nat) : Int) (((sumF (fs.take i)).2 : Nat) : Int) := wide_mul (a := 3000) (b := 6002) (by rw [Int.natAbs_natCast]; exact hfb.1) (by rw [Int.natAbs_natCast]; exact b1.2) (by decide) (by decide) (by decide)
    have w3 : CMulW (((sumF (fs.take i)).2 : Nat) : Int) ((fr.2 : Nat) : Int) := wide_mul (a := 6002) (b := 3000) (by rw [Int.natAbs_natCast]; exact b1.2) (by rw [Int.natAbs_natCast]; exact hfb.2.1) (by decide) (by decide) (by decide)
    refine ⟨_, rfl, _, rfl, _, _, rfl, rfl, w1, _, rfl, _, rfl, _, _, rfl, rfl, w2, _, _, rfl, rfl, _, rfl, _, rfl, _, _, rfl, rfl, w3, _, _, rfl, rfl, some (.int (fr.1 : Nat)), some (.int (fr.2 : Nat)), ?_⟩
    rw [List.take_add_one, hf]
    show [_, some (V.int (((sumF (fs.take i)).1 : Nat) * ((fr.2 : Nat) : Int) + ((fr.1 : Nat) : Int) * ((sumF (fs.take i)).2 : Nat))), some (V.int (((sumF (fs.take i)).2 : Nat) * ((fr.2 : Nat) : Int))), _, _] = _
    rw [show (some fr).toList = [fr] from rfl, sumF_snoc, ← Int.natCast_mul, ← Int.natCast_mul, ← Int.natCast_add, ← Int.natCast_mul]
  · subst hH hσ
    have b1 := bnd as.length
    rw [List.take_of_length_le (by omega)] at b1
    refine ⟨_, rfl, _, rfl, (sumF fs).1, (sumF fs).2, by rw [List.take_of_length_le (by omega)]; rfl, sumF_pos fun f hf => (hb f hf).2.2, Nat.lt_of_lt_of_le b1.2 (Nat.pow_le_pow_right (by decide) (by decide)), ?_, fun p H2 x2 hp => hq p H2 (x0.trans x2) hp⟩
    refine Nat.lt_of_lt_of_le (Nat.mul_lt_mul'' b1.1 b1.2) ?_
    rw [← Nat.pow_add]
    exact Nat.pow_le_pow_right (by decide) (by decide)
end
end K62
/-! ==== B62v ==== -/
namespace K62
open PySem PySem.Spec PyProof.Rows L2 Fx Od
section
variable {P : Program} {w : World} {K : PySem.W.Frag} {mg : Str → Option Value} {base : Heap} {C : Addr} {Z : List (Addr × Str)}
/-- list(range(len(weights))) if item is None else [item] -/
theorem kinds_run2 {σ : L2.St} {H : Hp} {Q : VK} {b : Addr} {k : Nat} {ws : Nat → Nat} {item : Option Nat} {i j : Nat} (hi : σ[i]? = some (some (.ref b))) (hj : σ[j]? = some (some (itemV item))) (hb : SqS K H b (lineV k ws)) (k4 : k ≤ 4)
    (q : ∀ l H', Ex Z H H' → H l = none → H' l = some (.lst ((kindsOf k item).map fun c => V.int (c : Nat))) → Q (.ref l) H') :
    tIf (tTest (tOp (fun x y H Q => y = V.non ∧ Q (V.bl (decide (x = V.non))) H) (tVar j) (tC V.non))) (tLstRg (tRg1 (tCB (rLenQ K) (tCons (tVar i) tNil)))) (tLst (tCons (tVar j) tNil)) σ H Q := by
  cases item with
  | none =>
    refine ⟨_, hj, rfl, true, rfl, ?_⟩
    refine ⟨_, hi, b, _, rfl, hb, _, rfl, RgOk.of_le (by omega) (by rw [lineV_len]; omega) (by omega) (by omega), fun l nl => q l _ (Ex.new nl) nl ?_⟩
    rw [upd_same, lineV_len]
    unfold rgV kindsOf
    rw [show ((k : Int) - 0).toNat = k by omega]
    simp
  | some c =>
    refine ⟨_, hj, rfl, false, rfl, ?_⟩
    exact ⟨_, hj, by show 1 ≤ sizeLine; decide, fun l nl => q l _ (Ex.new nl) nl upd_same⟩
def spLawNumbers (K : PySem.W.Frag) (Z : List (Addr × Str)) : Sp := fun vs H Q _ => ∃ p s b W r ws, vs = [.ref p, .ref s, .ref b] ∧ RawAt K H p W ∧ W.Ok ∧ SqT K H s (rowV r) ∧ r.length ≤ 300 ∧ Od.Row.Ok W.k r ∧ SqL K H b (lineV W.k ws) ∧ (∀ c < W.k, 1 ≤ ws c ∧ ws c ≤ 1000000) ∧
  ∀ q fd H', Ex Z H H' → H' q = some (.tup [.ref fd, .int (whole ws W.k r : Nat)]) → DkAt H' fd (numbers W ws r) → Q (.ref q) H'
theorem sc_law_numbers : FnScope ["watch", "shown", "weights", "found", "whole", "item", "later", "place", "kind", "goal"] ["watch", "shown", "weights"] (defScope s_law_numbers) := ⟨rfl, rfl, rfl, by decide +kernel, rfl, by decide +kernel, by decide +kernel⟩
theorem whole_take {ws : Nat → Nat} {k : Nat} (r : Od.Row) {i : Nat} {x : Option Nat} (h : r[i]? = some x) : whole ws k (r.take (i + 1)) = whole ws k (r.take i) * (if x.isNone then Od.sumTo ws k else 1) := by
  unfold whole
  rw [List.take_add_one, h]
  have e : ∀ s : Od.Row, unk (s ++ [x]) = unk s + (if x.isNone then 1 else 0) := fun s => by
    unfold unk
    rw [List.filter_append, List.length_append]
    cases x <;> simp
  show _ ^ unk (r.take i ++ [x]) = _
  rw [e, Nat.pow_add]
  cases x <;> simp
theorem lnumbers_ok (T : Txt K mg C) (D : Df K mg "_law_numbers" s_law_numbers []) : C8.Cal P w K mg base 1 "_law_numbers" (spLawNumbers K Z) [] := by
  refine D.cal (k := 0) sc_law_numbers (by intro kV doc pm an cdv ct us h; match us, h with | [_, _, _], _ => rfl) (by rintro _ _ _ _ ⟨_, _, _, _, _, _, rfl, _⟩; rfl) ?_
  rintro f cdv A outer s H _ Q E hr ⟨p, sa, b, W, r, ws, rfl, hP, ok, hS, hrl, hrk, hw, hws, hq⟩
  have hu := hu_of hr
  have hw0 : ∀ c < W.k, 0 < ws c := fun c h => (hws c h).1
  have n6 := ok.n6
  have k4 := ok.k4
  refine ⟨_, (pss_cons (ps_par rfl sc_law_numbers.nd (i := 3) (j := 4) rfl rfl (by decide) rfl rfl (pa_cons (pe_disp (pps_cons pe_int pe_int pps_nil) (by rfl) (by rfl) (fun z => by cases z) (by decide)) (pa_cons pe_int pa_nil)) (by rfl))
      (pss_cons (ps_for PassesOwn.never rfl (pi_seqK (K := K) rfl (pv 1)) (pg_name (i := 5) sc_law_numbers.nd rfl (by first | exact Or.inl rfl | exact Or.inr rfl))
      (pss_cons (ps_set (i := 6) sc_law_numbers.nd rfl (by first | exact Or.inl rfl | exact Or.inr rfl) pe_dnewK)
      (pss_cons (ps_lock (ps_for PassesOwn.never rfl (pi_keys (pv 3)) (pg_name (i := 7) sc_law_numbers.nd rfl (by first | exact Or.inl rfl | exact Or.inr rfl))
      (pss_one (ps_for PassesOwn.never rfl (pi_seqK (K := K) rfl (pe_ifExp (pt_cmpR op_isN (pv 5) pe_non (nomark _)) (pe_listRg rfl (by rfl) T.list (prg_1 (by rfl) T.range (pe_callB (lenK (K := K) rfl) (by rfl) T.len bt_len (pa_cons (pv 2) pa_nil)))) (pe_lst (pa_cons (pv 5) pa_nil)))) (pg_name (i := 8) sc_law_numbers.nd rfl (by first | exact Or.inl rfl | exact Or.inr rfl))
      (pss_cons (ps_set (i := 9) sc_law_numbers.nd rfl (by first | exact Or.inl rfl | exact Or.inr rfl) (pe_ix (ixtK (K := K) rfl) (pe_ix (ixtK (K := K) rfl) (pe_ix (ixtK (K := K) rfl) (pv 0) pe_int (fun _ _ => rfl)) (pv 7) (fun _ _ => rfl)) (pv 8) (fun _ _ => rfl)))
      (pss_one (ps_dput hu (pv 6) (pv 9) (pe_op op_add (pe_dget2 hu (pv 6) (pv 9) pe_int ⟨rfl, rfl, rfl, rfl⟩) (pe_op op_mulW (pe_dget hu (pv 3) (pv 7) (fun _ _ => rfl)) (pe_ifExp (pt_cmpR op_isN (pv 5) pe_non (nomark _)) (pe_ix (ixlK (K := K) rfl) (pv 2) (pv 8) (fun _ _ => rfl)) pe_int))) rfl)))))))
      (pss_one (ps_par rfl sc_law_numbers.nd (i := 3) (j := 4) rfl rfl (by decide) rfl rfl (pa_cons (pv 6) (pa_cons (pe_op op_mulW (pv 4) (pe_ifExp (pt_cmpR op_isN (pv 5) pe_non (nomark _)) (pe_callB (sumK (K := K) rfl rfl) (by rfl) T.sum bt_sum (pa_cons (pv 2) pa_nil)) pe_int)) pa_nil)) (by rfl))))))
      (pss_one (ps_ret (pe_tup (pa_cons (pv 3) (pa_cons (pv 4) pa_nil))))))), ?_⟩
  refine fun d nd => ⟨upd_same, [(Sum.inl 0, .int 1)], rfl, by decide, ?_⟩
  have x1 : Ex Z H (upd (upd H d (.dK [])) d (.dK (mergeK [] [(Sum.inl 0, .int 1)]))) := (Ex.new nd).mut (.inr nd) (Mb.of upd_same trivial)
  have d1 : DkAt (upd (upd H d (.dK [])) d (.dK (mergeK [] [(Sum.inl 0, .int 1)]))) d [(0, 1)] := upd_same
  generalize upd (upd H d (.dK [])) d (.dK (mergeK [] [(Sum.inl 0, .int 1)])) = H1 at x1 d1
  refine ⟨_, _, rfl, ?_⟩
  refine ⟨_, rfl, _, _, rfl, .inr (x1.sqT hS), fun J G wk hG => ?_⟩
  rw [rowV_len] at wk
  refine for_it wk (fun i σ H' => ∃ fd u5 u6 u7 u8 u9, σ = [some (.ref p), some (.ref sa), some (.ref b), some (.ref fd), some (.int (whole ws W.k (r.take i) : Nat)), u5, u6, u7, u8, u9] ∧ Ex Z H1 H' ∧ DkAt H' fd (numbers W ws (r.take i))) ⟨d, _, _, _, _, _, rfl, Exb.refl _, d1⟩ (fun i σ H' _ ⟨_, _, _, _, _, _, _, x, _⟩ => hG Z [] H' (by simp) x)
    (fun i x σ H2 H2' hi ⟨fd, u5, u6, u7, u8, u9, hσ, x2, hf⟩ hy => ?_) fun σ H2 ⟨fd, u5, u6, u7, u8, u9, hσ, x2, hf⟩ => ?_
  · subst hσ
    obtain ⟨rfl, hx⟩ := hy
    obtain ⟨item, hc, rfl⟩ := rowV_get hx
    have hik : ∀ c, item = some c → c < W.k := fun c e => hrk c (by rw [← e]; exact List.mem_of_getElem? hc)
    have x12 := x1.trans x2
    generalize hF : numbers W ws (r.take i) = found at hf
    have hg : Od.Good W.n found := by rw [← hF]; exact numbers_good ok hw0 (fun c hc => hrk c (List.mem_of_mem_take hc))
    have hbig : ∀ e ∈ found, e.2 < 2 ^ 9000 := fun e he => lt9000 (Nat.lt_of_le_of_lt (numbers_le (by rw [hF]; exact he)) (whole_lt ok hws (by rw [List.length_take]; omega)))
    refine fun dl ndl => ?_
    have x3 : Ex Z H2' (upd H2' dl (.dK [])) := Ex.new ndl
    have ef : upd H2' dl (.dK []) fd = some (.dK (kvD found)) := x3.dk hf
    refine ⟨fd, _, ef, trivial, fun od => ?_⟩
    refine ⟨_, rfl, fd, od, rfl, .inl ⟨_, upd_same, ?_⟩⟩
    have nfd : fd ≠ dl := fun z => by
      rw [z] at hf
      rw [show H2' dl = _ from hf] at ndl
      cases ndl
    generalize eH3 : upd (upd H2' dl (.dK [])) fd (.frz od (.dK (kvD found))) = H3
    have m2 : ∀ u, upd H2' dl (.dK []) fd = some u → Md u := Md.of ef trivial
    have hP3 : RawAt K H3 p W := by
      obtain ⟨m, wd, rs, h1, h2, h3, h4, h5⟩ := hP
      have x13 := x12.trans x3
      rw [← eH3]
      exact ⟨m, wd, rs, SqT.put (x13.sqT h1) m2, SqT.put (x13.sqT h2) m2, h3, fun p r e => SqT.put (x13.sqT (h4 p r e)) m2, SqT.put (x13.sqT h5) m2⟩
    have hw3 : SqL K H3 b (lineV W.k ws) := by
      rw [← eH3]
      exact SqL.putI ((x12.trans x3).sqL hw) (Mi.of ef trivial)
    have f3 : H3 fd = some (.frz od (.dK (kvD found))) := by
      rw [← eH3]
      exact upd_same
    have d3 : H3 dl = some (.dK []) := by
      rw [← eH3, upd_ne nfd.symm]
      exact upd_same
    have dB : ∀ b ∈ [dl], ∀ u, H3 b = some u → Ml u := fun b hb u e => Ml.of d3 trivial u (by rw [← List.mem_singleton.mp hb]; exact e)
    have dB2 : b ∈ [dl] → ∀ u, H3 b = some u → Mi u := fun hb u e => Mi.of d3 trivial u (by rw [← List.mem_singleton.mp hb]; exact e)
    refine for_it (n := (kvD found).length) walk_keys (fun j σ H' => ∃ u7 u8 u9, σ = [some (.ref p), some (.ref sa), some (.ref b), some (.ref fd), some (.int (whole ws W.k (r.take i) : Nat)), some (itemV item), some (.ref dl), u7, u8, u9] ∧ Exb Z [dl] H3 H' ∧ DkAt H' dl ((found.take j).foldl (fun acc e => heavier1 W ws item e acc) [])) ⟨_, _, _, rfl, Exb.refl _, d3⟩
      (fun j σ H' _ ⟨_, _, _, _, x, _⟩ => x.frzb (fun z => nfd (List.mem_singleton.mp z)) f3) (fun j x σ H4 H5 hlt ⟨u7, u8, u9, hσ, x4, hd4⟩ hy => ?_) fun σ H4 ⟨u7, u8, u9, hσ, x4, hd4⟩ => ?_
    · subst hσ
      obtain ⟨rfl, ky, vy, hkv, rfl⟩ := hy
      rw [kvD_len] at hlt
      obtain ⟨e, he⟩ : ∃ e, found[j]? = some e := ⟨found[j], List.getElem?_eq_getElem hlt⟩
      have hem := List.mem_of_getElem? he
      have hkv2 : (kvD found)[j]? = some (Sum.inl (e.1 : Int), V.int (e.2 : Nat)) := by
        unfold kvD
        rw [List.getElem?_map, he]
        rfl
      rw [hkv2] at hkv
      obtain ⟨rfl, rfl⟩ := Prod.mk.inj (Option.some.inj hkv)
      have hep := hg.lt e hem
      refine kinds_run2 (Z := Z) rfl rfl (.inl (x4.sqLm dB2 hw3)) k4 fun l H6 x6 nl hl => ?_
      refine ⟨l, _, rfl, .inl (SqL.of hl), fun J G wk hG => ?_⟩
      rw [List.length_map] at wk
      have d6 := x6.dk hd4
      have x36 := x4.trans x6.any
      have nld : l ≠ dl := fun z => by
        rw [← z, hl] at d6
        cases d6
      refine for_it wk (fun c σ H' => ∃ u8 u9, σ = [some (.ref p), some (.ref sa), some (.ref b), some (.ref fd), some (.int (whole ws W.k (r.take i) : Nat)), some (itemV item), some (.ref dl), some (.int (e.1 : Int)), u8, u9] ∧ Exb Z [dl] H6 H' ∧ DkAt H' dl (((kindsOf W.k item).take c).foldl (fun acc c => bump acc (W.mv e.1 c) (e.2 * wOf ws item c)) ((found.take j).foldl (fun acc e => heavier1 W ws item e acc) []))) ⟨_, _, rfl, Exb.refl _, d6⟩
        (fun j σ H' _ ⟨_, _, _, x, _⟩ => hG Z [dl] H' (fun z => absurd (List.mem_singleton.mp z) nld) x) (fun cj x σ H7 H8 hj ⟨u8, u9, hσ, x7, hd7⟩ hy => ?_) fun σ H7 ⟨u8, u9, hσ, x7, hd7⟩ => ?_
      · subst hσ
        obtain ⟨rfl, hx⟩ := hy
        obtain ⟨c, hc2, rfl⟩ := kinds_get hx
        have hck := kindsOf_lt hik c (List.mem_of_getElem? hc2)
        have x37 := x36.trans x7
        obtain ⟨m, wd, rs, h1, h2, h3, h4, h5⟩ := hP3.exb x37 dB
        obtain ⟨rr, hr0⟩ : ∃ rr, rs[e.1]? = some rr := ⟨rs[e.1]'(by omega), List.getElem?_eq_getElem (by omega)⟩
        refine ⟨_, rfl, _, _, ((0 : Nat) : Int), .ref m, rfl, rfl, h1, atI_nat rfl, _, rfl, ixT h2 (v := .ref rr) (by rw [List.getElem?_map, hr0]; rfl) ?_⟩
        refine ⟨_, rfl, ixT (h4 _ _ hr0) (lineV_at hck) ?_⟩
        have hget : DGet H8 fd (.int (e.1 : Nat)) (some (.int (e.2 : Nat))) := by
          refine .inl ⟨kvD found, Sum.inl (e.1 : Int), .inr ⟨od, x37.frzb (fun z => nfd (List.mem_singleton.mp z)) f3⟩, rfl, ?_⟩
          have hm2 : get found e.1 = some e.2 := mem_get hg.nd hem
          rw [kvD_get, hm2]
          rfl
        refine ⟨_, rfl, dl, rfl, .inl ⟨_, .inl hd7⟩, _, rfl, _, DGet.k (k := Sum.inl (W.mv e.1 c : Int)) hd7, _, rfl, _, rfl, fd, _, rfl, hget, ?_⟩
        have gacc : Od.Good W.n (((kindsOf W.k item).take cj).foldl (fun acc c => bump acc (W.mv e.1 c) (e.2 * wOf ws item c)) ((found.take j).foldl (fun acc e => heavier1 W ws item e acc) [])) :=
          fold_bump_good _ _ _ _ (fun c hc => ⟨ok.mv _ hep _ (kindsOf_lt hik c (List.mem_of_mem_take hc)), Nat.mul_pos (hg.ps e hem) (wOf_pos hw0 hik c (List.mem_of_mem_take hc))⟩)
            (heavier_good_from ok hw0 hik _ [] (fun x hx => ⟨hg.lt x (List.mem_of_mem_take hx), hg.ps x (List.mem_of_mem_take hx)⟩) (good_nil _))
        have hlen := good_len gacc
        have fin : ∀ v : Nat, v = wOf ws item c → v ≤ 1000000 → ∃ i' j', V.int (e.2 : Nat) = .int i' ∧ V.int (v : Nat) = .int j' ∧ CMulW i' j' ∧ i' * j' = ((e.2 * wOf ws item c : Nat) : Int) := fun v hv hv6 => by
          refine ⟨_, _, rfl, rfl, wide_mul (a := 9000) (b := 20) ?_ ?_ (by decide) (by decide) (by decide), ?_⟩
          · rw [Int.natAbs_natCast]
            exact hbig e hem
          · rw [Int.natAbs_natCast]
            omega
          · rw [← hv, Int.natCast_mul]
        have last : DkAt (upd H8 dl (.dK (putK (kvD (((kindsOf W.k item).take cj).foldl (fun acc c => bump acc (W.mv e.1 c) (e.2 * wOf ws item c)) ((found.take j).foldl (fun acc e => heavier1 W ws item e acc) []))) (Sum.inl (W.mv e.1 c : Int))
            (.int (((get (((kindsOf W.k item).take cj).foldl (fun acc c => bump acc (W.mv e.1 c) (e.2 * wOf ws item c)) ((found.take j).foldl (fun acc e => heavier1 W ws item e acc) [])) (W.mv e.1 c)).getD 0 : Nat) + ((e.2 * wOf ws item c : Nat) : Int)))))) dl (((kindsOf W.k item).take (cj + 1)).foldl (fun acc c => bump acc (W.mv e.1 c) (e.2 * wOf ws item c)) ((found.take j).foldl (fun acc e => heavier1 W ws item e acc) [])) := by
          rw [foldl_take _ _ _ hc2, ← Int.natCast_add, kvD_put]
          exact upd_same
        cases item with
        | none =>
          refine ⟨_, rfl, rfl, true, rfl, _, rfl, _, rfl, ixL (x37.sqLm dB2 hw3) (lineV_at hck) ?_⟩
          obtain ⟨i', j', e1, e2, hm, he⟩ := fin (ws c) rfl (hws c hck).2
          refine ⟨i', j', e1, e2, hm, _, _, kvD_getD _ _, rfl, _, rfl, _, rfl, dl, _, rfl, DPut.k (k := Sum.inl (W.mv e.1 c : Int)) hd7 (by rw [kvD_len]; exact Nat.lt_of_le_of_lt hlen (Nat.lt_of_le_of_lt n6 (by decide))), _, _, rfl, ?_, ?_⟩
          · exact x7.mut (.inl (by simp)) (Mb.of hd7 trivial)
          · rw [he]
            exact last
        | some c' =>
          refine ⟨_, rfl, rfl, false, rfl, ?_⟩
          obtain ⟨i', j', e1, e2, hm, he⟩ := fin 1 rfl (by decide)
          refine ⟨i', j', e1, e2, hm, _, _, kvD_getD _ _, rfl, _, rfl, _, rfl, dl, _, rfl, DPut.k (k := Sum.inl (W.mv e.1 c : Int)) hd7 (by rw [kvD_len]; exact Nat.lt_of_le_of_lt hlen (Nat.lt_of_le_of_lt n6 (by decide))), _, _, rfl, ?_, ?_⟩
          · exact x7.mut (.inl (by simp)) (Mb.of hd7 trivial)
          · rw [he]
            exact last
      · subst hσ
        refine ⟨_, _, _, rfl, x36.trans x7, ?_⟩
        rw [foldl_take _ _ _ he]
        rw [List.take_of_length_le (Nat.le_refl _)] at hd7
        exact hd7
    · subst hσ
      rw [kvD_len, List.take_of_length_le (Nat.le_refl _)] at hd4
      have ff := x4.frzb (fun z => nfd (List.mem_singleton.mp z)) f3
      have x5 : Ex Z H2' (upd H4 fd (.dK (kvD found))) := Exb.unb x3 ndl (Exb.locked trivial ef (by rw [eH3]; exact x4) ff)
      have hd5 : DkAt (upd H4 fd (.dK (kvD found))) dl (heavier W ws found item) := by
        show upd H4 fd _ dl = _
        rw [upd_ne nfd.symm]
        exact hd4
      refine ⟨ff, ?_⟩
      generalize upd H4 fd (.dK (kvD found)) = H5 at x5 hd5
      have fin : numbers W ws (r.take (i + 1)) = heavier W ws found item := by rw [numbers_take r hc, hF]
      have hwt := whole_take (ws := ws) (k := W.k) r hc
      cases item with
      | none =>
        refine ⟨_, rfl, _, rfl, _, rfl, rfl, true, rfl, ?_⟩
        refine ⟨_, rfl, b, (List.range W.k).map fun c => ((ws c : Nat) : Int), rfl, by rw [← lineV_ints]; exact .inl ((x12.trans x5).sqL hw), ?_⟩
        rw [sumTo_cast]
        refine ⟨_, _, rfl, rfl, wide_mul (a := 6601) (b := 22) (by rw [Int.natAbs_natCast]; exact whole_lt ok hws (by rw [List.length_take]; omega)) (by rw [Int.natAbs_natCast]; exact sumTo_lt ok hws) (by decide) (by decide) (by decide), _, _, rfl, dl, some (itemV none), some (.ref dl), u7, u8, u9, ?_, x2.trans x5, by rw [fin]; exact hd5⟩
        rw [hwt]
        show [_, _, _, _, some (V.int (((whole ws W.k (r.take i) : Nat) : Int) * ((Od.sumTo ws W.k : Nat) : Int))), _, _, _, _, _] = _
        rw [← Int.natCast_mul]
        rfl
      | some c' =>
        refine ⟨_, rfl, _, rfl, _, rfl, rfl, false, rfl, ?_⟩
        refine ⟨_, _, rfl, rfl, wide_mul (a := 6601) (b := 22) (by rw [Int.natAbs_natCast]; exact whole_lt ok hws (by rw [List.length_take]; omega)) (by decide) (by decide) (by decide) (by decide), _, _, rfl, dl, some (itemV (some c')), some (.ref dl), u7, u8, u9, ?_, x2.trans x5, by rw [fin]; exact hd5⟩
        rw [hwt]
        show [_, _, _, _, some (V.int (((whole ws W.k (r.take i) : Nat) : Int) * 1)), _, _, _, _, _] = _
        rw [Int.mul_one]
        show _ = [_, _, _, _, some (V.int ((whole ws W.k (r.take i) * 1 : Nat) : Int)), _, _, _, _, _]
        rw [Nat.mul_one]
  · subst hσ
    rw [List.take_of_length_le (Nat.le_refl _)] at hf
    refine ⟨_, rfl, _, rfl, by show 2 ≤ sizeLine; decide, fun q nq => ?_⟩
    rw [List.take_of_length_le (Nat.le_refl _)]
    exact hq q fd _ ((x1.trans x2).trans (Ex.new nq)) upd_same ((Ex.new nq (Z := Z)).dk hf)
end
end K62
/-! ==== B62w ==== -/
namespace K62
open PySem PySem.Spec PyProof.Rows L2 Fx Od
section
variable {P : Program} {w : World} {K : PySem.W.Frag} {mg : Str → Option Value} {base : Heap} {C : Addr} {Z : List (Addr × Str)}
/-! ### what a lap has at hand -/
structure Lap (K : PySem.W.Frag) (Z : List (Addr × Str)) (C : Addr) (tp al cl p hx wl t1 t2 : Addr) (W : Wt) (ws : Nat → Nat) (r1 r2 : Od.Row) (H : Hp) : Prop where
  tape : TapeAt H tp al cl
  tabs : LamX.Tabs Z H
  raw : RawAt K H p W
  here : WatchAt K C H hx W
  wt : H wl = some (.lst (lineV W.k ws))
  one : SqT K H t1 (rowV r1)
  two : SqT K H t2 (rowV r2)
section
variable {tp al cl p hx wl t1 t2 : Addr} {W : Wt} {ws : Nat → Nat} {r1 r2 : Od.Row} {H H' : Hp}
theorem RawAt.ex (x : Ex Z H H') (h : RawAt K H p W) : RawAt K H' p W := h.exb x (fun b hb => absurd hb (by simp))
theorem Lap.ex (x : Ex Z H H') (h : Lap K Z C tp al cl p hx wl t1 t2 W ws r1 r2 H) : Lap K Z C tp al cl p hx wl t1 t2 W ws r1 r2 H' := ⟨h.tape.ex x, x.2 h.tabs, h.raw.ex x, h.here.ex x, x.lst h.wt, x.sqT h.one, x.sqT h.two⟩
theorem Lap.exd (x : ExD Z tp al H H') (hT : TapeAt H' tp al cl) (n1 : wl ≠ tp) (n2 : wl ≠ al) (h : Lap K Z C tp al cl p hx wl t1 t2 W ws r1 r2 H) : Lap K Z C tp al cl p hx wl t1 t2 W ws r1 r2 H' :=
  ⟨hT, x.2 h.tabs, h.raw.exb x h.tape.ml, h.here.exb x h.tape.ml, x.lstb (by simp [n1, n2]) h.wt, SqT.exb x h.tape.ml h.one, SqT.exb x h.tape.ml h.two⟩
/-- a dict of numbers (or a fresh one) is not the tape -/
theorem TapeAt.nek {d : Addr} {kvs : List (Key × V)} (h : TapeAt H tp al cl) (hd : H d = some (.dK kvs)) (hk : ∀ kv ∈ kvs, ∃ i : Int, kv.1 = Sum.inl i) : d ≠ tp ∧ d ≠ al ∧ d ≠ cl := by
  obtain ⟨r, t, large, cells, h1, h2, h3, h4⟩ := h
  refine ⟨fun z => ?_, fun z => (by rw [z, h2] at hd; cases hd), fun z => (by rw [z, h3] at hd; cases hd)⟩
  rw [z, h1] at hd
  have e : tpD al r cl t = kvs := HO.dK.inj (Option.some.inj hd)
  obtain ⟨i, hi⟩ := hk (Sum.inr "large", .ref al) (by rw [← e]; exact List.mem_cons_self)
  cases hi
/-- such a dict is changed -/
theorem Lap.putd {d : Addr} {kvs : List (Key × V)} {o : HO} (h : Lap K Z C tp al cl p hx wl t1 t2 W ws r1 r2 H) (hd : H d = some (.dK kvs)) (hk : ∀ kv ∈ kvs, ∃ i : Int, kv.1 = Sum.inl i) : Lap K Z C tp al cl p hx wl t1 t2 W ws r1 r2 (upd H d o) := by
  have nk := h.tape.nek hd hk
  have md : ∀ u, H d = some u → Md u := Md.of hd trivial
  have hr : RawAt K (upd H d o) p W := by
    obtain ⟨m, wd, rs, h1, h2, h3, h4, h5⟩ := h.raw
    exact ⟨m, wd, rs, SqT.put h1 md, SqT.put h2 md, h3, fun p r e => SqT.put (h4 p r e) md, SqT.put h5 md⟩
  exact ⟨h.tape.put nk.1 nk.2.1 nk.2.2, tabs_upd h.tabs (Mb.of hd trivial), hr, h.here.put (Ml.of hd trivial), by
    rw [upd_ne (fun z => by have := h.wt; rw [z, hd] at this; cases this)]
    exact h.wt, SqT.put h.one md, SqT.put h.two md⟩
/-- all but one dict of whole keys stays -/
theorem Lap.exk {d : Addr} {kvs : List (Key × V)} (x : Exb Z [d] H H') (h : Lap K Z C tp al cl p hx wl t1 t2 W ws r1 r2 H) (hd : H d = some (.dK kvs)) (hk : ∀ kv ∈ kvs, ∃ i : Int, kv.1 = Sum.inl i) : Lap K Z C tp al cl p hx wl t1 t2 W ws r1 r2 H' := by
  have nk := h.tape.nek hd hk
  have ml : ∀ b ∈ [d], ∀ u, H b = some u → Ml u := fun b hb u e => Ml.of hd trivial u (by rw [← List.mem_singleton.mp hb]; exact e)
  have nw : wl ∉ [d] := fun z => by
    have := h.wt
    rw [List.mem_singleton.mp z, hd] at this
    cases this
  obtain ⟨r, t, large, cells, g1, g2, g3, g4⟩ := h.tape
  exact ⟨⟨r, t, large, cells, x.dkb (by simp [nk.1.symm]) g1, x.lstb (by simp [nk.2.1.symm]) g2, x.lstb (by simp [nk.2.2.symm]) g3, g4⟩, x.2 h.tabs, h.raw.exb x ml, h.here.exb x ml, x.lstb nw h.wt, SqT.exb x ml h.one, SqT.exb x ml h.two⟩
end
theorem kvD_int (d : Dc) : ∀ kv ∈ kvD d, ∃ i : Int, kv.1 = Sum.inl i := fun kv h => by
  obtain ⟨e, _, rfl⟩ := List.mem_map.mp h
  exact ⟨_, rfl⟩
theorem encF_int (l : List (Nat × Addr)) : ∀ kv ∈ l.map encF, ∃ i : Int, kv.1 = Sum.inl i := fun kv h => by
  obtain ⟨e, _, rfl⟩ := List.mem_map.mp h
  exact ⟨_, rfl⟩
/-! ### a dict of fractions is changed -/
theorem FdAt.set {H : Hp} {d q : Addr} {N N' : Nat → Nat} {w v : Nat} {l : List (Nat × Addr)} (h1 : H d = some (.dK (l.map encF))) (h2 : (l.map (·.1)).Nodup) (h3 : ∀ v, v ∈ l.map (·.1) ↔ (tabN N w v).isSome = true) (h4 : ∀ e ∈ l, ∃ f, tabN N w e.1 = some f ∧ FracAt H e.2 f)
    (hq : FracAt H q (frac (N' v) w)) (hv : 0 < N' v) (ho : ∀ u, u ≠ v → N' u = N u) : FdAt (upd H d (.dK (putK (l.map encF) (Sum.inl (v : Int)) (.ref q)))) d (tabN N' w) := by
  have md : ∀ u, H d = some u → Md u := Md.of h1 trivial
  have tv : tabN N' w v = some (frac (N' v) w) := if_neg (by omega)
  have tu : ∀ u, u ≠ v → tabN N' w u = tabN N w u := fun u hu => by
    unfold tabN
    rw [ho u hu]
  have anyk : ((l.map encF).any fun kv => decide (kv.1 = Sum.inl (v : Int))) = decide (v ∈ l.map (·.1)) := by
    rw [List.any_map]
    by_cases hm : v ∈ l.map (·.1)
    · rw [decide_eq_true hm]
      obtain ⟨e, he, hev⟩ := List.mem_map.mp hm
      exact List.any_eq_true.mpr ⟨e, he, decide_eq_true (by show (Sum.inl (e.1 : Int) : Key) = _; rw [hev])⟩
    · rw [decide_eq_false hm, List.any_eq_false]
      intro e he z
      have := Sum.inl.inj (show (Sum.inl (e.1 : Int) : Key) = Sum.inl (v : Int) from of_decide_eq_true z)
      exact hm (List.mem_map.mpr ⟨e, he, by omega⟩)
  unfold putK
  rw [anyk]
  by_cases hm : v ∈ l.map (·.1)
  · rw [if_pos (decide_eq_true hm)]
    refine ⟨l.map fun e => if e.1 = v then (e.1, q) else e, ?_, ?_, fun u => ?_, fun e he => ?_⟩
    · rw [upd_same, List.map_map, List.map_map]
      refine congrArg (fun z => some (HO.dK z)) (List.map_congr_left fun e _ => ?_)
      show (if (Sum.inl (e.1 : Int) : Key) = Sum.inl (v : Int) then _ else _) = encF (if e.1 = v then (e.1, q) else e)
      by_cases z : e.1 = v
      · rw [if_pos z, if_pos (by rw [z])]
        rfl
      · rw [if_neg z, if_neg (fun y => z (by have := Sum.inl.inj y; omega))]
    · rw [List.map_map]
      rw [show (fun x : Nat × Addr => x.1) ∘ (fun e : Nat × Addr => if e.1 = v then (e.1, q) else e) = fun x => x.1 from funext fun e => by show (if e.1 = v then (e.1, q) else e).1 = e.1; split <;> rfl]
      exact h2
    · rw [List.map_map, show (fun x : Nat × Addr => x.1) ∘ (fun e : Nat × Addr => if e.1 = v then (e.1, q) else e) = fun x => x.1 from funext fun e => by show (if e.1 = v then (e.1, q) else e).1 = e.1; split <;> rfl]
      by_cases z : u = v
      · rw [z, tv]
        exact ⟨fun _ => rfl, fun _ => hm⟩
      · rw [tu u z]
        exact h3 u
    · obtain ⟨y, hy, rfl⟩ := List.mem_map.mp he
      by_cases z : y.1 = v
      · rw [if_pos z]
        exact ⟨_, by rw [z]; exact tv, hq.put md⟩
      · rw [if_neg z, tu _ z]
        exact (h4 y hy).imp fun f g => ⟨g.1, g.2.put md⟩
  · rw [if_neg (by rw [decide_eq_false hm]; decide)]
    refine ⟨l ++ [(v, q)], ?_, ?_, fun u => ?_, fun e he => ?_⟩
    · rw [upd_same, List.map_append]
      rfl
    · rw [List.map_append, List.nodup_append]
      refine ⟨h2, by simp, fun a ha b hb => ?_⟩
      have : b = v := by simpa using hb
      rw [this]
      rintro rfl
      exact hm ha
    · rw [List.map_append, List.mem_append]
      by_cases z : u = v
      · rw [z, tv]
        exact ⟨fun _ => rfl, fun _ => .inr (by simp)⟩
      · rw [tu u z, ← h3 u]
        exact ⟨fun y => y.elim id (fun y => absurd (by simpa using y) z), .inl⟩
    · rcases List.mem_append.mp he with y | y
      · have hne : e.1 ≠ v := fun z => hm (List.mem_map.mpr ⟨e, y, z⟩)
        rw [tu _ hne]
        exact (h4 e y).imp fun f g => ⟨g.1, g.2.put md⟩
      · rw [List.mem_singleton.mp y]
        exact ⟨_, tv, hq.put md⟩
/-- the dict stays, or another one is changed -/
theorem FdAt.putk {H : Hp} {d b : Addr} {t : Nat → Option (Nat × Nat)} {kvs : List (Key × V)} {o : HO} (h : FdAt H d t) (hb : H b = some (.dK kvs)) (n : d ≠ b) : FdAt (upd H b o) d t := by
  obtain ⟨l, h1, h2, h3, h4⟩ := h
  exact ⟨l, by rw [upd_ne n]; exact h1, h2, h3, fun e he => (h4 e he).imp fun f g => ⟨g.1, g.2.put (Md.of hb trivial)⟩⟩
theorem FdAt.unfrz {H : Hp} {d b : Addr} {t : Nat → Option (Nat × Nat)} {od : Obj} {u o : HO} (h : FdAt H d t) (hb : H b = some (.frz od u)) (nt : ∀ xs, u ≠ .tup xs) : FdAt (upd H b o) d t := by
  obtain ⟨l, h1, h2, h3, h4⟩ := h
  refine ⟨l, by rw [upd_ne (fun z => by rw [z, hb] at h1; cases h1)]; exact h1, h2, h3, fun e he => (h4 e he).imp fun f g => ⟨g.1, ?_⟩⟩
  have g2 : H e.2 = _ := g.2
  show upd H b o e.2 = _
  rw [upd_ne (fun z => by rw [z, hb] at g2; cases g2)]
  exact g2
end
end K62
/-! ==== B62y ==== -/
namespace K62
open PySem PySem.Spec PyProof.Rows L2 Fx Od
section
variable {P : Program} {w : World} {K : PySem.W.Frag} {mg : Str → Option Value} {base : Heap} {C : Addr} {Z : List (Addr × Str)}
theorem cat_run {H : Hp} {a b : Addr} {xs ys : List V} {Q : VK} (ha : SqT K H a xs) (hb : SqT K H b ys) (hl : xs.length + ys.length ≤ 1000) (q : ∀ p H', Ex Z H H' → SqT K H' p (xs ++ ys) → Q (.ref p) H') : rCatA K (.ref a) (.ref b) H Q :=
  ⟨a, b, xs, ys, rfl, rfl, ha, hb, Nat.le_trans hl (by decide), fun e => q b H (Exb.refl _) (by rw [e]; exact hb), fun _ e => q a H (Exb.refl _) (by rw [e, List.append_nil]; exact ha), fun _ _ p np => q p _ (Ex.new np) (SqT.of upd_same)⟩
def frD (f : Nat × Nat) : PyData := .tuple [.int (f.1 : Nat), .int (f.2 : Nat)]
theorem frs_lay : ∀ l : List (Nat × Nat), PyData.canLayAll0 (l.map frD) = true
  | [] => rfl
  | f :: r => by
    show (true && PyData.canLayAll0 (r.map frD)) = true
    rw [frs_lay r]
    rfl
theorem frs_deep : ∀ l : List (Nat × Nat), PyData.depthAll (l.map frD) ≤ 1
  | [] => by decide
  | f :: r => by
    show max 1 (PyData.depthAll (r.map frD)) ≤ 1
    have := frs_deep r
    omega
theorem frs_shaped (l : List (Nat × Nat)) : SeqAt.shaped (.tuple (l.map frD)) = true := by
  show (PyData.canLayAll0 (l.map frD) && decide (PyData.depthAll (l.map frD) + 1 ≤ 64)) = true
  rw [frs_lay]
  have := frs_deep l
  exact decide_eq_true (by omega)
theorem frs_all {H : Hp} : ∀ (as : List Addr) (fs : List (Nat × Nat)), as.length = fs.length → (∀ (i : Nat) (a : Addr), as[i]? = some a → ∃ f, fs[i]? = some f ∧ FracAt H a f) → DpAll K H (as.map V.ref) (fs.map frD)
  | [], [], _, _ => .nil
  | a :: r, f :: fs, hl, h => by
    obtain ⟨g, hg, hga⟩ := h 0 a rfl
    have e : f = g := Option.some.inj (show some f = some g from hg)
    subst e
    exact .cons hga.dp (frs_all r fs (by simpa using hl) fun i b hb => h (i + 1) b hb)
  | [], _ :: _, hl, _ => by simp at hl
  | _ :: _, [], hl, _ => by simp at hl
theorem TfAt.dp {H : Hp} {p : Addr} {fs : List (Nat × Nat)} (h : TfAt H p fs) : Dp K H (.ref p) (.tuple (fs.map frD)) := by
  obtain ⟨l, h1, h2, h3⟩ := h
  exact .tup (SqT.of h1) (frs_all l fs h2 h3)
theorem ne_same {H : Hp} {x y : V} {d : PyData} {Q : VK} (hx : Dp K H x d) (hy : Dp K H y d) (hs : SeqAt.shaped d = true) (q : Q (.bl false) H) : rNeD K x y H Q :=
  ⟨d, d, hx, hy, hs, hs, by rw [SeqAt.eqv_refl d (SeqAt.canLay_of_shaped hs)]; exact q⟩
def bgD (e : Nat × (Nat × Nat)) : PyData := .tuple [.int (e.1 : Nat), frD e.2]
theorem BgAt.dp {H : Hp} {p : Addr} {e : Nat × (Nat × Nat)} (h : BgAt H p e) : Dp K H (.ref p) (bgD e) := by
  obtain ⟨a, h1, h2⟩ := h
  exact .tup (SqT.of h1) (.cons (.int _) (.cons h2.dp .nil))
def mtD : Option (Nat × (Nat × Nat)) → PyData
  | none => .none
  | some e => bgD e
theorem mtD_shaped (e : Option (Nat × (Nat × Nat))) : SeqAt.shaped (mtD e) = true := by
  cases e <;> rfl
theorem MtAt.dp {H : Hp} {v : V} {e : Option (Nat × (Nat × Nat))} (h : MtAt H v e) : Dp K H v (mtD e) := by
  cases e with
  | none =>
    obtain rfl : v = .non := h
    exact .non
  | some e =>
    obtain ⟨p, rfl, hp⟩ := h
    exact hp.dp
theorem lineV_cut (k : Nat) (ws : Nat → Nat) (x : Nat) (k1 : 1 ≤ k) : [V.int ((ws 0 + x : Nat) : Int)] ++ (lineV k ws).drop 1 = lineV k (joined ws x) := by
  obtain ⟨j, rfl⟩ : ∃ j, k = j + 1 := ⟨k - 1, by omega⟩
  unfold lineV
  rw [List.range_succ_eq_map, List.map_cons, List.map_cons]
  show V.int ((ws 0 + x : Nat) : Int) :: _ = V.int ((ws 0 + x : Nat) : Int) :: _
  congr 1
  rw [List.drop_one, List.tail_cons, List.map_map, List.map_map]
  apply List.map_congr_left
  intro c _
  show V.int ((ws (c + 1) : Nat) : Int) = V.int ((joined ws x (c + 1) : Nat) : Int)
  rw [show joined ws x (c + 1) = ws (c + 1) from if_neg (by omega)]
theorem cut_one (xs : List V) (h : 1 ≤ xs.length) : cutV xs (some 1) none = xs.drop 1 := by
  unfold cutV
  have e : HT.sIx xs.length 0 (some 1) = 1 := by
    have := HT.sIx_nat xs.length 0 1
    rw [show ((1 : Nat) : Int) = 1 from rfl] at this
    rw [this]
    omega
  rw [e, HT.sIx_none]
  exact List.take_of_length_le (by rw [List.length_drop]; exact Nat.le_refl _)
theorem parted_ok {k : Nat} {ws : Nat → Nat} {x : Nat} (h : ∀ c < k, 1 ≤ ws c ∧ ws c ≤ 1000000) (hx : 1 ≤ x ∧ x ≤ 1000000) : ∀ c < k + 1, 1 ≤ parted k ws x c ∧ parted k ws x c ≤ 1000000 := fun c hc => by
  unfold parted
  split
  · exact hx
  · exact h c (by omega)
theorem joined_ok {k : Nat} {ws : Nat → Nat} {x : Nat} (h : ∀ c < k, 1 ≤ ws c ∧ ws c ≤ 30) (hx : x ≤ 30) : ∀ c < k, 1 ≤ joined ws x c ∧ joined ws x c ≤ 1000000 := fun c hc => by
  unfold joined
  have := h c hc
  split
  · rename_i z
    subst z
    omega
  · omega
theorem rowV_named (k : Nat) (s : Od.Row) : rowV (named k s) = s.map fun i => itemV (if i = some 0 then some k else i) := by
  unfold rowV named
  rw [List.map_map]
  rfl
theorem mean_wide {W : Wt} (ok : W.Ok) {ws : Nat → Nat} {x : Nat} (hj : ∀ c < W.k, 0 < joined ws x c) (len : Nat) : meanN (wide W) (parted W.k ws x) len = meanN W (joined ws x) len := by
  have al := wide_alike ok ws x
  have e : Od.sumTo (fun i => i * foundN (wide W) (parted W.k ws x) len i) (len + 1) = Od.sumTo (fun i => i * foundN W (joined ws x) len i) (len + 1) := sumTo_congr fun c _ => by rw [found_alike al ok hj (wide_sure ok) len c]
  unfold meanN
  rw [al.sum, e]
theorem best_wide {W : Wt} (ok : W.Ok) {ws : Nat → Nat} {x : Nat} {r : Od.Row} (hk : Od.Row.Ok W.k r) : bestF (wide W) (parted W.k ws x) (named W.k r) = bestF W (joined ws x) r := by
  have al := wide_alike ok ws x
  have hM : M (wide W) (parted W.k ws x) (named W.k r) = M W (joined ws x) r := funext fun v => M_alike al ok.n1 _ r (named_rows ok.k1 hk) v
  unfold bestF
  rw [hM, whole_alike al _ r (named_rows ok.k1 hk)]
theorem eq_same {H : Hp} {x y : V} {d : PyData} {Q : VK} (hx : Dp K H x d) (hy : Dp K H y d) (hs : SeqAt.shaped d = true) (q : Q (.bl true) H) : rEqD K x y H Q :=
  ⟨d, d, hx, hy, hs, hs, by rw [SeqAt.eqv_refl d (SeqAt.canLay_of_shaped hs)]; exact q⟩
/-! ### the written watch -/
def fallsW : Wt := ⟨3, 2, fun p c => (([[0, 1], [0, 2], [2, 2]] : List (List Nat)).getD p []).getD c 0, fun p => ([0, 0, 1] : List Nat).getD p 0⟩
theorem falls_ok : fallsW.Ok := ⟨by decide, by decide, by decide, by decide, by decide, by decide⟩
def fallsWs : Nat → Nat := fun c => if c = 0 then 3 else 1
theorem falls_row : Od.Row.Ok fallsW.k [some 1, none] := fun c hc => by
  have : c = 1 := by simpa using hc
  rw [this]
  decide
theorem falls_tab : otab fallsW fallsWs [some 1, none] = fun v => if v = 0 then some (3, 4) else if v = 1 then some (1, 4) else none := by
  funext v
  by_cases h : v < 4
  · rcases lt4 h with rfl | rfl | rfl | rfl <;> decide +kernel
  · have := M_big falls_ok (ws := fallsWs) (by decide) falls_row (v := v) (by omega)
    unfold otab
    rw [if_pos this, if_neg (by omega), if_neg (by omega)]
theorem falls_mean : meanN fallsW (fun _ => 1) 2 = (3, 2) := by decide +kernel
end
end K62
/-! ==== B62x ==== -/
namespace K62
open PySem PySem.Spec PyProof.Rows L2 Fx Od
section
variable {P : Program} {w : World} {K : PySem.W.Frag} {mg : Str → Option Value} {base : Heap} {C : Addr} {Z : List (Addr × Str)}
def spLaw (K : PySem.W.Frag) (Z : List (Addr × Str)) : Sp := fun vs H Q _ => ∃ (a : Addr) (ns : List Int), vs = [.ref a] ∧ SqL K H a (ns.map V.int) ∧ ns.length ≤ 63 ∧ LamX.Tabs Z H ∧ ∀ H', Q (.bl true) H'
theorem sc_law : FnScope ["script", "tape", "lap", "watch", "here", "weights", "one", "two", "found", "whole", "several", "place", "shares", "word", "part", "times", "scaled", "wide", "parted", "joined", "named", "falls", "weight", "goals", "kind"] ["script"] (defScope s_law) := ⟨rfl, rfl, rfl, by decide +kernel, rfl, by decide +kernel, by decide +kernel⟩
theorem law_ok {fl : Addr} {fdl : FuncData} (T : Txt K mg C) (F : FunD K "law" "law" (defArgs s_law) (defBody s_law) (defScope s_law) [] [] fl fdl) (c_law_begun : C8.Cal P w K mg base 1 "_law_begun" (spLawBegun K Z) []) (c_law_draw : C8.Cal P w K mg base 2 "_law_draw" (spDraw Z) []) (c_law_watch : C8.Cal P w K mg base 3 "_law_watch" (spLawWatch K Z) [])
    (c_law_made : C8.Cal P w K mg base 9 "_law_made" (spMade K Z C) []) (c_law_weights : C8.Cal P w K mg base 4 "_law_weights" (spLawWeights Z) []) (c_law_shown_row : C8.Cal P w K mg base 4 "_law_shown_row" (spLawShown K Z) []) (c_law_numbers : C8.Cal P w K mg base 1 "_law_numbers" (spLawNumbers K Z) [])
    (c_law_begun_at : C8.Cal P w K mg base 9 "_law_begun_at" (spBegunAt K Z C) []) (c_law_sum : C8.Cal P w K mg base 3 "_law_sum" (spLawSum K Z) []) (c_odds : C8.Cal P w K mg base 7 "odds" (spOdds K Z C) []) (c_sure_times : C8.Cal P w K mg base 5 "sure_times" (spSureTimes K Z C) []) (c_most_telling : C8.Cal P w K mg base 7 "most_telling" (spTelling K Z C) [])
    (c_mean_sure : C8.Cal P w K mg base 5 "mean_sure" (spMean K Z C) []) (c_best_guess : C8.Cal P w K mg base 6 "best_guess" (spBest K Z C) []) (c_Watch : C8.Mak P w K mg base 7 "Watch" C (spWatch K Z C) []) : FnOk P w K mg base C8.CX0 10 fl fdl ["script"] (spLaw K Z) := by
  refine F.ok sc_law (by rintro _ _ _ _ ⟨_, _, rfl, _⟩; rfl) (k := 9) fun cdv A outer s H vs Q E hr h => ?_
  obtain ⟨a, ns, rfl, hS, hl, hZ, hq⟩ := h
  have hu := hu_of hr
  have hu64 := hr.units
  refine ⟨_, PSs.nox (pss_cons (ps_set (i := 1) sc_law.nd rfl (by first | exact Or.inl rfl | exact Or.inr rfl) (C8.pe_c c_law_begun hr (by decide) (by rfl) (pa_cons (pv 0) pa_nil)))
      (pss_cons (ps_for PassesOwn.never rfl (pi_range1 (by rfl) T.range (pa_cons (pe_op op_add pe_int (pe_callB (call_min2 rfl) (by rfl) T.min bt_min (pa_cons (pe_callB (lenK (K := K) rfl) (by rfl) T.len bt_len (pa_cons (pv 0) pa_nil)) (pa_cons pe_int pa_nil)))) pa_nil)) (pg_name (i := 2) sc_law.nd rfl (by first | exact Or.inl rfl | exact Or.inr rfl))
      (pss_cons (ps_set (i := 3) sc_law.nd rfl (by first | exact Or.inl rfl | exact Or.inr rfl) (C8.pe_c c_law_watch hr (by decide) (by rfl) (pa_cons (pv 1) (pa_cons pe_int (pa_cons (pe_op op_add pe_int (C8.pe_c c_law_draw hr (by decide) (by rfl) (pa_cons (pv 1) (pa_cons pe_int pa_nil)))) (pa_cons pe_int pa_nil))))))
      (pss_cons (ps_asg (pe_tup (pa_cons (C8.pe_c c_law_made hr (by decide) (by rfl) (pa_cons (pv 3) pa_nil)) (pa_cons (C8.pe_c c_law_weights hr (by decide) (by rfl) (pa_cons (pv 1) (pa_cons (pe_callB (lenK (K := K) rfl) (by rfl) T.len bt_len (pa_cons (pe_ix (ixtK (K := K) rfl) (pe_ix (ixtK (K := K) rfl) (pv 3) pe_int (fun _ _ => rfl)) pe_int (fun _ _ => rfl)) pa_nil)) pa_nil))) pa_nil))) (pg_tupK (K := K) (n := 2) rfl rfl (pgs_cons (pg_name (i := 4) sc_law.nd rfl (by first | exact Or.inl rfl | exact Or.inr rfl)) (pgs_cons (pg_name (i := 5) sc_law.nd rfl (by first | exact Or.inl rfl | exact Or.inr rfl)) pgs_nil))))
      (pss_cons (ps_par rfl sc_law.nd (i := 6) (j := 7) rfl rfl (by decide) rfl rfl (pa_cons (C8.pe_c c_law_shown_row hr (by decide) (by rfl) (pa_cons (pv 1) (pa_cons (pv 3) (pa_cons pe_int pa_nil)))) (pa_cons (C8.pe_c c_law_shown_row hr (by decide) (by rfl) (pa_cons (pv 1) (pa_cons (pv 3) (pa_cons pe_int pa_nil)))) pa_nil)) (by rfl))
      (pss_cons (ps_asg (C8.pe_c c_law_numbers hr (by decide) (by rfl) (pa_cons (pv 3) (pa_cons (pv 6) (pa_cons (pv 5) pa_nil)))) (pg_tupK (K := K) (n := 2) rfl rfl (pgs_cons (pg_name (i := 8) sc_law.nd rfl (by first | exact Or.inl rfl | exact Or.inr rfl)) (pgs_cons (pg_name (i := 9) sc_law.nd rfl (by first | exact Or.inl rfl | exact Or.inr rfl)) pgs_nil))))
      (pss_cons (ps_set (i := 10) sc_law.nd rfl (by first | exact Or.inl rfl | exact Or.inr rfl) pe_dnewK)
      (pss_cons (ps_lock (ps_for PassesOwn.never rfl (pi_keys (pv 8)) (pg_name (i := 11) sc_law.nd rfl (by first | exact Or.inl rfl | exact Or.inr rfl))
      (pss_cons (ps_set (i := 12) sc_law.nd rfl (by first | exact Or.inl rfl | exact Or.inr rfl) (C8.pe_c c_odds hr (by decide) (by rfl) (pa_cons (C8.pe_c c_law_begun_at hr (by decide) (by rfl) (pa_cons (pv 3) (pa_cons (pv 11) pa_nil))) (pa_cons (pv 7) (pa_cons (pv 5) pa_nil)))))
      (pss_one (ps_lock (ps_for PassesOwn.never rfl (pi_keys (pv 12)) (pg_name (i := 13) sc_law.nd rfl (by first | exact Or.inl rfl | exact Or.inr rfl))
      (pss_cons (ps_set (i := 14) sc_law.nd rfl (by first | exact Or.inl rfl | exact Or.inr rfl) (pe_tup (pa_cons (pe_op op_mulW (pe_dget hu (pv 8) (pv 11) (fun _ _ => rfl)) (pe_ix (ixtK (K := K) rfl) (pe_dget hu (pv 12) (pv 13) (fun _ _ => rfl)) pe_int (fun _ _ => rfl))) (pa_cons (pe_op op_mulW (pv 9) (pe_ix (ixtK (K := K) rfl) (pe_dget hu (pv 12) (pv 13) (fun _ _ => rfl)) pe_int (fun _ _ => rfl))) pa_nil))))
      (pss_one (ps_dput hu (pv 10) (pv 13) (C8.pe_c c_law_sum hr (by decide) (by rfl) (pa_cons (pe_op op_cat (pe_lst (pa_cons (pv 14) pa_nil)) (pe_ifExp (pt_cmp (pc_din hu (pv 13) (pv 10))) (pe_lst (pa_cons (pe_dget hu (pv 10) (pv 13) (fun _ _ => rfl)) pa_nil)) (pe_lst pa_nil))) pa_nil)) rfl)))))))))
      (pss_cons (ps_if (pt_cmpR (op_neDD hu64) (C8.pe_c c_odds hr (by decide) (by rfl) (pa_cons (pv 4) (pa_cons (pe_op (catAK (K := K) rfl) (pv 6) (pv 7)) (pa_cons (pv 5) pa_nil)))) (pv 10) (nomark _)) (pss_one (ps_ret pe_bl)) pss_nil)
      (pss_cons (ps_set (i := 15) sc_law.nd rfl (by first | exact Or.inl rfl | exact Or.inr rfl) (pe_op op_add pe_int (C8.pe_c c_law_draw hr (by decide) (by rfl) (pa_cons (pv 1) (pa_cons pe_int pa_nil)))))
      (pss_cons (ps_setLc (i := 16) (own := [("weight", 22)]) rfl sc_law.nd rfl rfl (sw_true rfl rfl rfl (by decide +kernel)) (pi_seqK (K := K) rfl (pv 5)) (blkOk_by (own := [("weight", 22)]) (N := ["script", "tape", "lap", "watch", "here", "weights", "one", "two", "found", "whole", "several", "place", "shares", "word", "part", "times", "scaled", "wide", "parted", "joined", "named", "falls", "weight", "goals", "kind"]) (sc := defScope s_law) (by decide +kernel)) (fun _ _ _ _ _ => (pg_name (i := 22) sc_law.nd rfl (by first | exact Or.inl rfl | exact Or.inr rfl))) (fun _ _ _ _ _ => pts_nil) (fun _ _ _ _ _ => (pe_op op_mulW (pv 22) (pv 15))))
      (pss_cons (ps_if (PW.pt (pw_or (pt_cmpR (op_neDD hu64) (C8.pe_c c_odds hr (by decide) (by rfl) (pa_cons (pv 4) (pa_cons (pv 6) (pa_cons (pv 16) pa_nil)))) (C8.pe_c c_odds hr (by decide) (by rfl) (pa_cons (pv 4) (pa_cons (pv 6) (pa_cons (pv 5) pa_nil)))) (nomark _)) (pw_or1 (pt_cmpR (op_neD hu64) (C8.pe_c c_sure_times hr (by decide) (by rfl) (pa_cons (pv 4) (pa_cons (pv 16) (pa_cons pe_int pa_nil)))) (C8.pe_c c_sure_times hr (by decide) (by rfl) (pa_cons (pv 4) (pa_cons (pv 5) (pa_cons pe_int pa_nil)))) (nomark _))))) (pss_one (ps_ret pe_bl)) pss_nil)
      (pss_cons (ps_if (pt_cmpR (op_neD hu64) (C8.pe_c c_most_telling hr (by decide) (by rfl) (pa_cons (pv 4) (pa_cons (pv 6) (pa_cons (pv 16) pa_nil)))) (C8.pe_c c_most_telling hr (by decide) (by rfl) (pa_cons (pv 4) (pa_cons (pv 6) (pa_cons (pv 5) pa_nil)))) (nomark _)) (pss_one (ps_ret pe_bl)) pss_nil)
      (pss_cons (ps_set (i := 17) sc_law.nd rfl (by first | exact Or.inl rfl | exact Or.inr rfl) (C8.pe_mk c_Watch hr (by decide) (by rfl) (pa_cons (pe_lc (own := [("goals", 23)]) rfl sc_law.nd (pi_seqK (K := K) rfl (pe_ix (ixtK (K := K) rfl) (pv 3) pe_int (fun _ _ => rfl))) (blkOk_by (own := [("goals", 23)]) (N := ["script", "tape", "lap", "watch", "here", "weights", "one", "two", "found", "whole", "several", "place", "shares", "word", "part", "times", "scaled", "wide", "parted", "joined", "named", "falls", "weight", "goals", "kind"]) (sc := defScope s_law) (by decide +kernel)) (fun _ _ _ _ _ => (pg_name (i := 23) sc_law.nd rfl (by first | exact Or.inl rfl | exact Or.inr rfl))) (fun _ _ _ _ _ => pts_nil) (fun _ _ _ _ _ => (pe_op (catAK (K := K) rfl) (pv 23) (pe_tup (pa_cons (pe_ix (ixtK (K := K) rfl) (pv 23) pe_int (fun _ _ => rfl)) pa_nil))))) (pa_cons (pe_callTy (lstK (K := K) rfl) (by rfl) T.list bt_list (pa_cons (pe_ix (ixtK (K := K) rfl) (pv 3) pe_int (fun _ _ => rfl)) pa_nil)) pa_nil))))
      (pss_one (ps_if (pt_cmpR op_lt (pe_callB (lenK (K := K) rfl) (by rfl) T.len bt_len (pa_cons (pv 5) pa_nil)) pe_int (nomark _)) (pss_cons (ps_set (i := 14) sc_law.nd rfl (by first | exact Or.inl rfl | exact Or.inr rfl) (pe_op op_add pe_int (C8.pe_c c_law_draw hr (by decide) (by rfl) (pa_cons (pv 1) (pa_cons pe_int pa_nil)))))
      (pss_cons (ps_par rfl sc_law.nd (i := 18) (j := 19) rfl rfl (by decide) rfl rfl (pa_cons (pe_op op_cat (pv 5) (pe_lst (pa_cons (pv 14) pa_nil))) (pa_cons (pe_op op_cat (pe_lst (pa_cons (pe_op op_add (pe_ix (ixlK (K := K) rfl) (pv 5) pe_int (fun _ _ => rfl)) (pv 14)) pa_nil)) (pe_slice sl_list (pv 5) (po_some pe_int) po_none)) pa_nil)) (by rfl))
      (pss_cons (ps_if (PW.pt (pw_or (pt_cmpR (op_neDD hu64) (C8.pe_c c_odds hr (by decide) (by rfl) (pa_cons (pv 17) (pa_cons (pv 6) (pa_cons (pv 18) pa_nil)))) (C8.pe_c c_odds hr (by decide) (by rfl) (pa_cons (pv 4) (pa_cons (pv 6) (pa_cons (pv 19) pa_nil)))) (nomark _)) (pw_or1 (pt_cmpR (op_neD hu64) (C8.pe_c c_mean_sure hr (by decide) (by rfl) (pa_cons (pv 17) (pa_cons (pv 18) (pa_cons pe_int pa_nil)))) (C8.pe_c c_mean_sure hr (by decide) (by rfl) (pa_cons (pv 4) (pa_cons (pv 19) (pa_cons pe_int pa_nil)))) (nomark _))))) (pss_one (ps_ret pe_bl)) pss_nil)
      (pss_cons (ps_set (i := 20) sc_law.nd rfl (by first | exact Or.inl rfl | exact Or.inr rfl) (pe_callTy (tupK (K := K) rfl) (by rfl) T.tuple bt_tuple (pa_cons (pe_lc (own := [("kind", 24)]) rfl sc_law.nd (pi_seqK (K := K) rfl (pv 6)) (blkOk_by (own := [("kind", 24)]) (N := ["script", "tape", "lap", "watch", "here", "weights", "one", "two", "found", "whole", "several", "place", "shares", "word", "part", "times", "scaled", "wide", "parted", "joined", "named", "falls", "weight", "goals", "kind"]) (sc := defScope s_law) (by decide +kernel)) (fun _ _ _ _ _ => (pg_name (i := 24) sc_law.nd rfl (by first | exact Or.inl rfl | exact Or.inr rfl))) (fun _ _ _ _ _ => pts_nil) (fun _ _ _ _ _ => (pe_ifExp (pt_cmpR op_eq (pv 24) pe_int (nomark _)) (pe_callB (lenK (K := K) rfl) (by rfl) T.len bt_len (pa_cons (pv 5) pa_nil)) (pv 24)))) pa_nil)))
      (pss_one (ps_if (PW.pt (pw_or (pt_cmpR (op_neDD hu64) (C8.pe_c c_odds hr (by decide) (by rfl) (pa_cons (pv 17) (pa_cons (pv 20) (pa_cons (pv 18) pa_nil)))) (C8.pe_c c_odds hr (by decide) (by rfl) (pa_cons (pv 4) (pa_cons (pv 6) (pa_cons (pv 19) pa_nil)))) (nomark _)) (pw_or1 (pt_cmpR (op_neD hu64) (C8.pe_c c_best_guess hr (by decide) (by rfl) (pa_cons (pv 17) (pa_cons (pv 20) (pa_cons (pv 18) pa_nil)))) (C8.pe_c c_best_guess hr (by decide) (by rfl) (pa_cons (pv 4) (pa_cons (pv 6) (pa_cons (pv 19) pa_nil)))) (nomark _))))) (pss_one (ps_ret pe_bl)) pss_nil)))))) pss_nil)))))))))))))))
      (pss_cons (ps_set (i := 21) sc_law.nd rfl (by first | exact Or.inl rfl | exact Or.inr rfl) (C8.pe_mk c_Watch hr (by decide) (by rfl) (pa_cons (pe_lst (pa_cons (pe_tup (pa_cons pe_int (pa_cons pe_int pa_nil))) (pa_cons (pe_tup (pa_cons pe_int (pa_cons pe_int pa_nil))) (pa_cons (pe_tup (pa_cons pe_int (pa_cons pe_int pa_nil))) pa_nil)))) (pa_cons (pe_lst (pa_cons pe_int (pa_cons pe_int (pa_cons pe_int pa_nil)))) pa_nil))))
      (pss_one (ps_ret (pe_and (pe_cmpR (op_eqDD hu64) (C8.pe_c c_odds hr (by decide) (by rfl) (pa_cons (pv 21) (pa_cons (pe_tup (pa_cons pe_int (pa_cons pe_non pa_nil))) (pa_cons (pe_tup (pa_cons pe_int (pa_cons pe_int pa_nil))) pa_nil)))) (pe_disp (pps_cons pe_int (pe_tup (pa_cons pe_int (pa_cons pe_int pa_nil))) (pps_cons pe_int (pe_tup (pa_cons pe_int (pa_cons pe_int pa_nil))) pps_nil)) (by rfl) (by rfl) (fun z => by cases z) (by decide)) (nomark _)) (pe_one (pe_cmpR (op_eqD hu64) (C8.pe_c c_mean_sure hr (by decide) (by rfl) (pa_cons (pv 21) (pa_cons (pe_tup (pa_cons pe_int (pa_cons pe_int pa_nil))) (pa_cons pe_int pa_nil)))) (pe_tup (pa_cons pe_int (pa_cons pe_int pa_nil))) (nomark _))))))))), ?_⟩
  refine ⟨_, rfl, a, ns, rfl, hS, by omega, fun tp al cl H1 x1 hT1 => ?_⟩
  refine ⟨_, rfl, a, _, rfl, .inl (x1.sqL hS), _, _, rfl, _, _, rfl, rfl, ?_⟩
  have hZ1 := x1.2 hZ
  have jb : (-(2 ^ 62) : Int) ≤ 3 + (if (7 : Int) < (((ns.map V.int).length : Nat) : Int) then 7 else (((ns.map V.int).length : Nat) : Int)) ∧ 3 + (if (7 : Int) < (((ns.map V.int).length : Nat) : Int) then 7 else (((ns.map V.int).length : Nat) : Int)) < 2 ^ 62 := by
    split <;> omega
  refine ⟨_, rfl, jb.1, jb.2, for_range (lo := 0) (fun i σ H' => ∃ u2 u3 u4 u5 u6 u7 u8 u9 u10 u11 u12 u13 u14 u15 u16 u17 u18 u19 u20 u21 u22 u23 u24, σ = [some (.ref a), some (.ref tp), u2, u3, u4, u5, u6, u7, u8, u9, u10, u11, u12, u13, u14, u15, u16, u17, u18, u19, u20, u21, u22, u23, u24] ∧ TapeAt H' tp al cl ∧ LamX.Tabs Z H') ⟨_, _, _, _, _, _, _, _, _, _, _, _, _, _, _, _, _, _, _, _, _, _, _, rfl, hT1, hZ1⟩ (fun i σ H2 hi ⟨u2, u3, u4, u5, u6, u7, u8, u9, u10, u11, u12, u13, u14, u15, u16, u17, u18, u19, u20, u21, u22, u23, u24, hσ, hT2, hZ2⟩ => ?_) fun σ H2 ⟨u2, u3, u4, u5, u6, u7, u8, u9, u10, u11, u12, u13, u14, u15, u16, u17, u18, u19, u20, u21, u22, u23, u24, hσ, hT2, hZ2⟩ => ?_⟩
  · subst hσ
    -- watch
    refine ⟨_, rfl, _, rfl, tp, al, cl, 2, rfl, hT2, by decide, by decide, fun d2 H3 hd2 x3 hT3 => ?_⟩
    refine ⟨_, _, rfl, rfl, tp, al, cl, 5, 2 + d2, 3, ?_, hT3, by decide, by decide, by omega, by omega, by decide, by decide, fun p W H4 ok hWk hWn hRaw4 x4 hT4 => ?_⟩
    · show [V.ref tp, V.int 5, V.int ((2 : Int) + (d2 : Int)), V.int 3] = _
      rw [show (2 : Int) + (d2 : Int) = ((2 + d2 : Nat) : Int) by omega]
      rfl
    have k3 : W.k ≤ 3 := by omega
    have k1 := ok.k1
    have n1 := ok.n1
    have n6 := ok.n6
    have hZ4 := x4.2 (x3.2 hZ2)
    -- here, weights
    refine ⟨_, rfl, p, W, rfl, hRaw4, ok, hZ4, fun hx H5 x5 hHere5 => ?_⟩
    have hRaw5 := RawAt.ex x5 hRaw4
    have hT5 := hT4.ex x5
    obtain ⟨m, wd, rs, g1, g2, g3, g4, g5⟩ := id hRaw5
    obtain ⟨r0, h0⟩ : ∃ r0, rs[0]? = some r0 := ⟨rs[0]'(by omega), List.getElem?_eq_getElem (by omega)⟩
    refine ⟨_, rfl, _, rfl, _, _, ((0 : Nat) : Int), .ref m, rfl, rfl, g1, atI_nat rfl, m, _, ((0 : Nat) : Int), .ref r0, rfl, rfl, g2, atI_nat (by rw [List.getElem?_map, h0]; rfl), r0, _, rfl, .inr (g4 0 r0 h0), ?_⟩
    rw [lineV_len]
    refine ⟨tp, al, cl, W.k, rfl, hT5, ok.k4, fun wl ws H6 hws hwl6 nwl x6 hT6 => ?_⟩
    have hws6 : ∀ c < W.k, 1 ≤ ws c ∧ ws c ≤ 1000000 := fun c hc => ⟨(hws c hc).1, by have := (hws c hc).2; omega⟩
    have hw0 : ∀ c < W.k, 0 < ws c := fun c hc => (hws c hc).1
    have hRaw6 := hRaw5.exb x6 hT5.ml
    have hHere6 := hHere5.exb x6 hT5.ml
    have hZ6 := x6.2 (x5.2 hZ4)
    refine ⟨by show 2 ≤ sizeLine; decide, fun tq ntq => ⟨_, _, rfl, SqT.of upd_same, rfl, _, _, rfl, _, _, rfl, rfl, ?_⟩⟩
    have x7 : Ex Z H6 (upd H6 tq (.tup [.ref hx, .ref wl])) := Ex.new ntq
    have hT7 := hT6.ex x7
    have hRaw7 := RawAt.ex x7 hRaw6
    have hHere7 := hHere6.ex x7
    have hwl7 := x7.lst hwl6
    have hZ7 := x7.2 hZ6
    generalize upd H6 tq (.tup [.ref hx, .ref wl]) = H7 at hT7 hRaw7 hHere7 hwl7 hZ7
    -- one, two
    refine ⟨_, rfl, _, rfl, tp, al, cl, p, W, 6, rfl, hT7, hRaw7, ok, by decide, fun t1 r1 H8 hl1 hk1 ht1 x8 hT8 => ?_⟩
    have hRaw8 := hRaw7.exb x8 hT7.ml
    refine ⟨_, rfl, _, rfl, tp, al, cl, p, W, 6, rfl, hT8, hRaw8, ok, by decide, fun t2 r2 H9 hl2 hk2 ht2 x9 hT9 => ?_⟩
    have x79 := x8.trans x9
    have L9 : Lap K Z C tp al cl p hx wl t1 t2 W ws r1 r2 H9 := ⟨hT9, x79.2 hZ7, hRaw7.exb x79 hT7.ml, hHere7.exb x79 hT7.ml, x79.lstb (by simp [nwl.1, nwl.2.1]) hwl7, SqT.exb x9 hT8.ml ht1, ht2⟩
    refine ⟨_, _, rfl, ?_⟩
    -- found, whole
    refine ⟨_, rfl, _, rfl, _, rfl, p, t1, wl, W, r1, ws, rfl, L9.raw, ok, L9.one, by omega, hk1, SqL.of L9.wt, hws6, fun q fd H10 x10 hq10 hf10 => ?_⟩
    refine ⟨_, _, rfl, SqT.of hq10, rfl, _, _, rfl, _, _, rfl, rfl, ?_⟩
    have L10 := L9.ex x10
    refine fun sv nsv => ?_
    have x11 : Ex Z H10 (upd H10 sv (.dK [])) := Ex.new nsv
    have f11 := x11.dk hf10
    have L11 := L10.ex x11
    have s11 : upd H10 sv (.dK []) sv = some (.dK []) := upd_same
    have nfs : fd ≠ sv := fun z => by
      rw [z] at hf10
      rw [show H10 sv = _ from hf10] at nsv
      cases nsv
    generalize upd H10 sv (.dK []) = H11 at x11 f11 L11 s11
    have gF := numbers_good ok hw0 hk1 (s := r1)
    have wF := fun (e : Nat × Nat) (he : e ∈ numbers W ws r1) => numbers_le he
    have tF := numbers_total (W := W) (ws := ws) r1
    have w1p := whole_pos' ok hws6 r1
    have w2p := whole_pos' ok hws6 r2
    have w1b := whole_lt42 k3 (fun c hc => (hws c hc).2) hl1
    have w2b := whole_lt42 k3 (fun c hc => (hws c hc).2) hl2
    have hNn := tabN_all W ws r1 r2
    generalize numbers W ws r1 = F at hf10 f11 gF wF tF hNn
    refine ⟨fd, _, f11, trivial, fun od => ?_⟩
    refine ⟨_, rfl, fd, od, rfl, .inl ⟨_, upd_same, ?_⟩⟩
    have L12 := L11.putd (o := .frz od (.dK (kvD F))) f11 (kvD_int F)
    have f12 : upd H11 fd (.frz od (.dK (kvD F))) fd = some (.frz od (.dK (kvD F))) := upd_same
    have s12 : upd H11 fd (.frz od (.dK (kvD F))) sv = some (.dK []) := by rw [upd_ne nfs.symm]; exact s11
    generalize eH12 : upd H11 fd (.frz od (.dK (kvD F))) = H12 at L12 f12 s12
    refine for_it (n := (kvD F).length) walk_keys (fun j σ H' => ∃ u11 u12 u13 u14, σ = [some (.ref a), some (.ref tp), some (.int (0 + (i : Int))), some (.ref p), some (.ref hx), some (.ref wl), some (.ref t1), some (.ref t2), some (.ref fd), some (.int (whole ws W.k r1 : Nat)), some (.ref sv), u11, u12, u13, u14, u15, u16, u17, u18, u19, u20, u21, u22, u23, u24] ∧ Exb Z [sv] H12 H' ∧ FdAt H' sv (tabN (Nn W ws r2 (F.take j)) (whole ws W.k r1 * whole ws W.k r2))) ⟨_, _, _, _, rfl, Exb.refl _, ⟨[], s12, by simp, fun v => by simp [tabN, Nn, Od.T], fun e he => by cases he⟩⟩
      (fun j σ H' _ ⟨_, _, _, _, _, x, _⟩ => x.frzb (fun z => nfs (List.mem_singleton.mp z)) f12) (fun j x σ H13 H14 hj ⟨u11, u12, u13, u14, hσ, x13, hsv13⟩ hy => ?_) fun σ H13 ⟨u11, u12, u13, u14, hσ, x13, hsv13⟩ => ?_
    · subst hσ
      obtain ⟨rfl, ky, vy, hkv, rfl⟩ := hy
      rw [kvD_len] at hj
      obtain ⟨e, he⟩ : ∃ e, F[j]? = some e := ⟨F[j], List.getElem?_eq_getElem hj⟩
      have hem := List.mem_of_getElem? he
      have hkv2 : (kvD F)[j]? = some (Sum.inl (e.1 : Int), V.int (e.2 : Nat)) := by
        unfold kvD
        rw [List.getElem?_map, he]
        rfl
      rw [hkv2] at hkv
      obtain ⟨rfl, rfl⟩ := Prod.mk.inj (Option.some.inj hkv)
      have hep := gF.lt e hem
      have L14 := L12.exk x13 s12 (fun kv h => by cases h)
      refine ⟨_, rfl, _, rfl, p, W, e.1, rfl, L14.raw, ok, hep, L14.tabs, fun bx H15 x15 hb15 => ?_⟩
      have L15 := L14.ex x15
      refine ⟨_, rfl, _, rfl, bx, t2, wl, beg W e.1, r2, ws, rfl, hb15, beg_ok ok hep, ⟨.inr L15.two, by omega, hk2⟩, ⟨.inl (SqL.of L15.wt), hws6⟩, fun sh H16 x16 nw16 hsh16 => ?_⟩
      have L16 := L15.ex x16
      have x1316 : Exb Z [sv] H12 H16 := (x13.trans x15.any).trans x16.any
      have hsv16 := (hsv13.ex x15).ex x16
      obtain ⟨l, b1, b2, b3, b4⟩ := hsh16
      have nss : sh ≠ sv := by
        obtain ⟨l0, c1, _⟩ := hsv13.ex x15
        exact nw16.ne c1
      refine ⟨sh, _, b1, trivial, fun od2 => ?_⟩
      refine ⟨_, rfl, sh, od2, rfl, .inl ⟨_, upd_same, ?_⟩⟩
      have sh17 : upd H16 sh (.frz od2 (.dK (l.map encF))) sh = some (.frz od2 (.dK (l.map encF))) := upd_same
      have hsv17 : FdAt (upd H16 sh (.frz od2 (.dK (l.map encF)))) sv (tabN (Nn W ws r2 (F.take j)) (whole ws W.k r1 * whole ws W.k r2)) := hsv16.putk b1 nss.symm
      have b4' : ∀ e2 ∈ l, ∃ f, otab (beg W e.1) ws r2 e2.1 = some f ∧ FracAt (upd H16 sh (.frz od2 (.dK (l.map encF)))) e2.2 f := fun e2 he2 => (b4 e2 he2).imp fun f g => ⟨g.1, g.2.put (Md.of b1 trivial)⟩
      have f17 : upd H16 sh (.frz od2 (.dK (l.map encF))) fd = some (.frz od (.dK (kvD F))) := by
        have := x1316.frzb (fun z => nfs (List.mem_singleton.mp z)) f12
        rw [upd_ne (fun z => by rw [← z, this] at b1; cases b1)]
        exact this
      generalize eH17 : upd H16 sh (.frz od2 (.dK (l.map encF))) = H17 at sh17 hsv17 b4' f17
      have hn0 : (fun v => Nn W ws r2 (F.take j) v + (if v ∈ (l.map (·.1)).take 0 then e.2 * M (beg W e.1) ws r2 v else 0)) = Nn W ws r2 (F.take j) := by
        funext v
        simp
      refine for_it (n := (l.map encF).length) walk_keys (fun jj σ H' => ∃ u13 u14, σ = [some (.ref a), some (.ref tp), some (.int (0 + (i : Int))), some (.ref p), some (.ref hx), some (.ref wl), some (.ref t1), some (.ref t2), some (.ref fd), some (.int (whole ws W.k r1 : Nat)), some (.ref sv), some (.int (e.1 : Int)), some (.ref sh), u13, u14, u15, u16, u17, u18, u19, u20, u21, u22, u23, u24] ∧ Exb Z [sv] H17 H' ∧ FdAt H' sv (tabN (fun v => Nn W ws r2 (F.take j) v + (if v ∈ (l.map (·.1)).take jj then e.2 * M (beg W e.1) ws r2 v else 0)) (whole ws W.k r1 * whole ws W.k r2))) ⟨_, _, rfl, Exb.refl _, by rw [hn0]; exact hsv17⟩
        (fun jj σ H' _ ⟨_, _, _, x, _⟩ => x.frzb (fun z => nss (List.mem_singleton.mp z)) sh17) (fun jj x σ H18 H19 hjj ⟨u13, u14, hσ, x18, hsv18⟩ hy => ?_) fun σ H18 ⟨u13, u14, hσ, x18, hsv18⟩ => ?_
      · subst hσ
        obtain ⟨rfl, ky, vy, hkv, rfl⟩ := hy
        rw [List.length_map] at hjj
        obtain ⟨e2, he2⟩ : ∃ e2, l[jj]? = some e2 := ⟨l[jj], List.getElem?_eq_getElem hjj⟩
        have hem2 := List.mem_of_getElem? he2
        rw [List.getElem?_map, he2] at hkv
        obtain ⟨rfl, rfl⟩ := Prod.mk.inj (Option.some.inj hkv)
        obtain ⟨fr, hfr, hfa⟩ := b4' e2 hem2
        have hM0 : M (beg W e.1) ws r2 e2.1 ≠ 0 := fun z => by
          unfold otab at hfr
          rw [if_pos z] at hfr
          cases hfr
        have hfr2 : fr = frac (M (beg W e.1) ws r2 e2.1) (whole ws W.k r2) := by
          unfold otab at hfr
          rw [if_neg hM0] at hfr
          exact (Option.some.inj hfr).symm
        have hMle := M_beg_le ok (ws := ws) hep r2 e2.1
        have fb1 : fr.1 ≤ 2 ^ 42 := by
          rw [hfr2]
          exact Nat.le_trans (frac_le1 _ _) (Nat.le_trans hMle w2b)
        have fb2 : fr.2 ≤ 2 ^ 42 := by
          rw [hfr2]
          exact Nat.le_trans (frac_le2 _ _) w2b
        have eb : e.2 ≤ 2 ^ 42 := Nat.le_trans (wF e hem) w1b
        have p42 : (2 : Nat) ^ 42 < 2 ^ 43 := by decide
        have hgF : DGet H19 fd (.int (e.1 : Nat)) (some (.int (e.2 : Nat))) := by
          refine .inl ⟨kvD F, Sum.inl (e.1 : Int), .inr ⟨od, x18.frzb (fun z => nfs (List.mem_singleton.mp z)) f17⟩, rfl, ?_⟩
          have hm2 : get F e.1 = some e.2 := mem_get gF.nd hem
          rw [kvD_get, hm2]
          rfl
        have hgS : DGet H19 sh (.int (e2.1 : Nat)) (some (.ref e2.2)) := by
          refine .inl ⟨l.map encF, Sum.inl (e2.1 : Int), .inr ⟨od2, x18.frzb (fun z => nss (List.mem_singleton.mp z)) sh17⟩, rfl, ?_⟩
          exact (encF_mem b2 hem2).symm
        obtain ⟨lsv, c1, c2, c3, c4⟩ := id hsv18
        have hfa18 : FracAt H19 e2.2 fr := by
          have h1 : H17 e2.2 = _ := hfa
          refine x18.tupb (fun z => ?_) hfa
          obtain ⟨l0, a1, _⟩ := hsv17
          rw [List.mem_singleton.mp z, a1] at h1
          cases h1
        refine ⟨_, rfl, _, rfl, fd, _, rfl, hgF, _, rfl, _, rfl, sh, _, rfl, hgS, _, _, ((0 : Nat) : Int), .int (fr.1 : Nat), rfl, rfl, SqT.of hfa18, atI_nat rfl, _, _, rfl, rfl, wide_mul (a := 43) (b := 43) (by rw [Int.natAbs_natCast]; omega) (by rw [Int.natAbs_natCast]; omega) (by decide) (by decide) (by decide), ?_⟩
        refine ⟨_, rfl, _, rfl, _, rfl, sh, _, rfl, hgS, _, _, ((1 : Nat) : Int), .int (fr.2 : Nat), rfl, rfl, SqT.of hfa18, atI_nat rfl, _, _, rfl, rfl, wide_mul (a := 43) (b := 43) (by rw [Int.natAbs_natCast]; omega) (by rw [Int.natAbs_natCast]; omega) (by decide) (by decide) (by decide), by show 2 ≤ sizeLine; decide, fun pt npt => ?_⟩
        have x20 : Ex Z H19 (upd H19 pt (.tup [.int ((e.2 : Nat) * ((fr.1 : Nat) : Int)), .int ((whole ws W.k r1 : Nat) * ((fr.2 : Nat) : Int))])) := Ex.new npt
        have hpt : FracAt (upd H19 pt (.tup [.int ((e.2 : Nat) * ((fr.1 : Nat) : Int)), .int ((whole ws W.k r1 : Nat) * ((fr.2 : Nat) : Int))])) pt (e.2 * fr.1, whole ws W.k r1 * fr.2) := by
          show upd _ _ _ _ = _
          rw [upd_same, ← Int.natCast_mul, ← Int.natCast_mul]
        refine ⟨_, rfl, by show 1 ≤ sizeLine; decide, fun l1 nl1 => ?_⟩
        generalize upd H19 pt (.tup [.int ((e.2 : Nat) * ((fr.1 : Nat) : Int)), .int ((whole ws W.k r1 : Nat) * ((fr.2 : Nat) : Int))]) = H20 at x20 hpt nl1
        have x21 : Ex Z H20 (upd H20 l1 (.lst [.ref pt])) := Ex.new nl1
        have h21 : upd H20 l1 (.lst [.ref pt]) l1 = some (.lst [.ref pt]) := upd_same
        have hpt21 := hpt.ex x21
        generalize upd H20 l1 (.lst [.ref pt]) = H21 at x21 h21 hpt21
        have x1921 := x20.trans x21
        have ndl : (l.map (·.1)).Nodup := b2
        have hjm : (l.map (·.1))[jj]? = some e2.1 := by rw [List.getElem?_map, he2]; rfl
        have hnot : e2.1 ∉ (l.map (·.1)).take jj := fun hm => by
          have nd := ndl
          rw [← List.take_append_drop jj (l.map (·.1)), List.nodup_append] at nd
          refine nd.2.2 _ hm e2.1 ?_ rfl
          have hlt := (List.getElem?_eq_some_iff.mp hjm).1
          rw [List.drop_eq_getElem_cons hlt]
          rw [(List.getElem?_eq_some_iff.mp hjm).2]
          exact List.mem_cons_self
        have Nold : (fun v => Nn W ws r2 (F.take j) v + (if v ∈ (l.map (·.1)).take jj then e.2 * M (beg W e.1) ws r2 v else 0)) e2.1 = Nn W ws r2 (F.take j) e2.1 := by
          show Nn W ws r2 (F.take j) e2.1 + (if e2.1 ∈ (l.map (·.1)).take jj then _ else 0) = _
          rw [if_neg hnot, Nat.add_zero]
        have hmem1 : ∀ u, u ∈ (l.map (·.1)).take (jj + 1) ↔ u ∈ (l.map (·.1)).take jj ∨ u = e2.1 := fun u => by
          rw [List.take_add_one, hjm, List.mem_append]
          simp
        have Nnew : (fun v => Nn W ws r2 (F.take j) v + (if v ∈ (l.map (·.1)).take (jj + 1) then e.2 * M (beg W e.1) ws r2 v else 0)) e2.1 = Nn W ws r2 (F.take j) e2.1 + e.2 * M (beg W e.1) ws r2 e2.1 := by
          show Nn W ws r2 (F.take j) e2.1 + (if e2.1 ∈ (l.map (·.1)).take (jj + 1) then _ else 0) = _
          rw [if_pos ((hmem1 _).mpr (.inr rfl))]
        have Nelse : ∀ u, u ≠ e2.1 → (fun v => Nn W ws r2 (F.take j) v + (if v ∈ (l.map (·.1)).take (jj + 1) then e.2 * M (beg W e.1) ws r2 v else 0)) u = (fun v => Nn W ws r2 (F.take j) v + (if v ∈ (l.map (·.1)).take jj then e.2 * M (beg W e.1) ws r2 v else 0)) u := fun u hu => by
          show Nn W ws r2 (F.take j) u + (if u ∈ (l.map (·.1)).take (jj + 1) then _ else 0) = Nn W ws r2 (F.take j) u + (if u ∈ (l.map (·.1)).take jj then _ else 0)
          by_cases hm : u ∈ (l.map (·.1)).take jj
          · rw [if_pos hm, if_pos ((hmem1 u).mpr (.inl hm))]
          · rw [if_neg hm, if_neg (fun z => ((hmem1 u).mp z).elim hm hu)]
        have posM : 0 < e.2 * M (beg W e.1) ws r2 e2.1 := Nat.mul_pos (gF.ps e hem) (Nat.pos_of_ne_zero hM0)
        have lsv4 : lsv.length ≤ 4 := by
          have := nodup_len 4 (lsv.map (·.1)) c2 fun v hv => by
            rcases Nat.lt_or_ge v 4 with h | h
            · exact h
            · exfalso
              have h5 := (c3 v).mp hv
              have z1 : Nn W ws r2 (F.take j) v = 0 := Nn_big ok hw0 hk2 (fun x hx => gF.lt x (List.mem_of_mem_take hx)) h
              have z2 : M (beg W e.1) ws r2 v = 0 := M_big (beg_ok ok hep) hw0 hk2 h
              have z3 : (fun v => Nn W ws r2 (F.take j) v + (if v ∈ (l.map (·.1)).take jj then e.2 * M (beg W e.1) ws r2 v else 0)) v = 0 := by
                show Nn W ws r2 (F.take j) v + (if v ∈ (l.map (·.1)).take jj then e.2 * M (beg W e.1) ws r2 v else 0) = 0
                rw [z1, z2, Nat.mul_zero]
                split <;> rfl
              unfold tabN at h5
              rw [if_pos z3] at h5
              cases h5
          rw [List.length_map] at this
          exact this
        have fin : ∀ (H22 : Hp) (q : Addr), Ex Z H21 H22 → FracAt H22 q (frac ((fun v => Nn W ws r2 (F.take j) v + (if v ∈ (l.map (·.1)).take (jj + 1) then e.2 * M (beg W e.1) ws r2 v else 0)) e2.1) (whole ws W.k r1 * whole ws W.k r2)) → H22 sv = some (.dK (lsv.map encF)) ∧ Exb Z [sv] H17 (upd H22 sv (.dK (putK (lsv.map encF) (Sum.inl (e2.1 : Int)) (.ref q)))) ∧ FdAt (upd H22 sv (.dK (putK (lsv.map encF) (Sum.inl (e2.1 : Int)) (.ref q)))) sv (tabN (fun v => Nn W ws r2 (F.take j) v + (if v ∈ (l.map (·.1)).take (jj + 1) then e.2 * M (beg W e.1) ws r2 v else 0)) (whole ws W.k r1 * whole ws W.k r2)) := fun H22 q x22 hq22 => by
          have xx := x1921.trans x22
          have s22 := xx.dk c1
          refine ⟨s22, (x18.trans xx.any).mut (.inl (by simp)) (Mb.of s22 trivial), FdAt.set s22 c2 c3 (fun e3 h3 => (c4 e3 h3).imp fun f g => ⟨g.1, g.2.ex xx⟩) hq22 ?_ Nelse⟩
          exact Nat.lt_of_lt_of_eq (Nat.lt_of_lt_of_le posM (Nat.le_add_left _ _)) Nnew.symm
        have pb1 : e.2 * fr.1 < 2 ^ 3000 := Nat.lt_of_lt_of_le (Nat.mul_lt_mul'' (Nat.lt_of_le_of_lt eb p42) (Nat.lt_of_le_of_lt fb1 p42)) (by rw [← Nat.pow_add]; exact Nat.pow_le_pow_right (by decide) (by decide))
        have pb2 : whole ws W.k r1 * fr.2 < 2 ^ 3000 := Nat.lt_of_lt_of_le (Nat.mul_lt_mul'' (Nat.lt_of_le_of_lt w1b p42) (Nat.lt_of_le_of_lt fb2 p42)) (by rw [← Nat.pow_add]; exact Nat.pow_le_pow_right (by decide) (by decide))
        have pb0 : 0 < whole ws W.k r1 * fr.2 := by
          rw [hfr2]
          exact Nat.mul_pos w1p (frac_pos w2p)
        have wb : (whole ws W.k r1 * whole ws W.k r2) < 2 ^ 3000 := Nat.lt_of_lt_of_le (Nat.mul_lt_mul'' (Nat.lt_of_le_of_lt w1b p42) (Nat.lt_of_le_of_lt w2b p42)) (by rw [← Nat.pow_add]; exact Nat.pow_le_pow_right (by decide) (by decide))
        by_cases hin : e2.1 ∈ lsv.map (·.1)
        · obtain ⟨e3, he3, he31⟩ := List.mem_map.mp hin
          obtain ⟨f3, hf3, hfa3⟩ := c4 e3 he3
          have hgV : valV (lsv.map encF) (Sum.inl (e2.1 : Int)) = some (.ref e3.2) := encF_mem c2 (by rw [← he31]; exact he3)
          have hf3' : f3 = frac (Nn W ws r2 (F.take j) e2.1) (whole ws W.k r1 * whole ws W.k r2) := by
            rw [he31] at hf3
            unfold tabN at hf3
            by_cases z : (fun v => Nn W ws r2 (F.take j) v + (if v ∈ (l.map (·.1)).take jj then e.2 * M (beg W e.1) ws r2 v else 0)) e2.1 = 0
            · rw [if_pos z] at hf3
              cases hf3
            · rw [if_neg z, Nold] at hf3
              exact (Option.some.inj hf3).symm
          have s21 := x1921.dk c1
          have hgD : DGet H21 sv (.int (e2.1 : Nat)) (some (.ref e3.2)) := by
            rw [← hgV]
            exact DGet.k (k := Sum.inl (e2.1 : Int)) s21
          refine ⟨_, rfl, _, rfl, sv, _, rfl, hgD, true, rfl, ?_⟩
          refine ⟨_, rfl, _, rfl, sv, _, rfl, hgD, by show 1 ≤ sizeLine; decide, fun l2 nl2 => ?_⟩
          have x22 : Ex Z H21 (upd H21 l2 (.lst [.ref e3.2])) := Ex.new nl2
          refine ⟨l1, l2, _, _, rfl, rfl, x22.lst h21, upd_same, by show 2 ≤ sizeLine; decide, fun l3 nl3 => ?_⟩
          have x23 : Ex Z (upd H21 l2 (.lst [.ref e3.2])) (upd (upd H21 l2 (.lst [.ref e3.2])) l3 (.lst ([.ref pt] ++ [.ref e3.2]))) := Ex.new nl3
          have xx := x22.trans x23
          refine ⟨l3, [pt, e3.2], [(e.2 * fr.1, whole ws W.k r1 * fr.2), f3], rfl, SqL.of upd_same, rfl, by show 2 ≤ 2; decide, fun ii aa haa => ?_, fun g hg => ?_, fun q H24 x24 hq24 => ?_⟩
          · match ii, haa with
            | 0, haa => exact ⟨_, rfl, by rw [← Option.some.inj haa]; exact hpt21.ex xx⟩
            | 1, haa => exact ⟨_, rfl, by rw [← Option.some.inj haa]; exact (hfa3.ex x1921).ex xx⟩
          · simp only [List.mem_cons, List.not_mem_nil, or_false] at hg
            rcases hg with rfl | rfl
            · exact ⟨pb1, pb2, pb0⟩
            · rw [hf3']
              refine ⟨Nat.lt_of_le_of_lt (frac_le1 _ _) (Nat.lt_of_le_of_lt (Nn_le ok gF r2 e2.1 j) ?_), Nat.lt_of_le_of_lt (frac_le2 _ _) wb, frac_pos (Nat.mul_pos w1p w2p)⟩
              rw [tF]
              exact wb
          · have hsum : frac (sumF [(e.2 * fr.1, whole ws W.k r1 * fr.2), f3]).1 (sumF [(e.2 * fr.1, whole ws W.k r1 * fr.2), f3]).2 = frac ((fun v => Nn W ws r2 (F.take j) v + (if v ∈ (l.map (·.1)).take (jj + 1) then e.2 * M (beg W e.1) ws r2 v else 0)) e2.1) (whole ws W.k r1 * whole ws W.k r2) := by
              rw [Nnew, hfr2, hf3']
              exact sum_two w1p w2p
            rw [hsum] at hq24
            obtain ⟨s24, y1, y2⟩ := fin H24 q (xx.trans x24) hq24
            exact ⟨_, rfl, _, rfl, sv, _, rfl, DPut.k (k := Sum.inl (e2.1 : Int)) s24 (by rw [List.length_map]; exact Nat.lt_of_le_of_lt lsv4 (by decide)), _, _, rfl, y1, y2⟩
        · have hgV : valV (lsv.map encF) (Sum.inl (e2.1 : Int)) = none := by
            rw [encF_get]
            cases q : lsv.find? fun e => decide (e.1 = e2.1) with
            | none => rfl
            | some e3 =>
              exfalso
              have h1 := List.mem_of_find?_eq_some q
              have h2 := List.find?_some q
              exact hin (List.mem_map.mpr ⟨e3, h1, of_decide_eq_true h2⟩)
          have N0 : Nn W ws r2 (F.take j) e2.1 = 0 := by
            rcases Nat.eq_zero_or_pos (Nn W ws r2 (F.take j) e2.1) with z | z
            · exact z
            · exfalso
              refine hin ((c3 e2.1).mpr ?_)
              unfold tabN
              rw [if_neg (by rw [Nold]; omega)]
              rfl
          have s21 := x1921.dk c1
          have hgD : DGet H21 sv (.int (e2.1 : Nat)) none := by
            rw [← hgV]
            exact DGet.k (k := Sum.inl (e2.1 : Int)) s21
          refine ⟨_, rfl, _, rfl, sv, _, rfl, hgD, false, rfl, ?_⟩
          refine ⟨by show 0 ≤ sizeLine; decide, fun l2 nl2 => ?_⟩
          have x22 : Ex Z H21 (upd H21 l2 (.lst [])) := Ex.new nl2
          refine ⟨l1, l2, _, _, rfl, rfl, x22.lst h21, upd_same, by show 1 ≤ sizeLine; decide, fun l3 nl3 => ?_⟩
          have x23 : Ex Z (upd H21 l2 (.lst [])) (upd (upd H21 l2 (.lst [])) l3 (.lst ([.ref pt] ++ []))) := Ex.new nl3
          have xx := x22.trans x23
          refine ⟨l3, [pt], [(e.2 * fr.1, whole ws W.k r1 * fr.2)], rfl, SqL.of upd_same, rfl, by show 1 ≤ 2; decide, fun ii aa haa => ?_, fun g hg => ?_, fun q H24 x24 hq24 => ?_⟩
          · match ii, haa with
            | 0, haa => exact ⟨_, rfl, by rw [← Option.some.inj haa]; exact hpt21.ex xx⟩
          · rw [List.mem_singleton.mp hg]
            exact ⟨pb1, pb2, pb0⟩
          · have hsum : frac (sumF [(e.2 * fr.1, whole ws W.k r1 * fr.2)]).1 (sumF [(e.2 * fr.1, whole ws W.k r1 * fr.2)]).2 = frac ((fun v => Nn W ws r2 (F.take j) v + (if v ∈ (l.map (·.1)).take (jj + 1) then e.2 * M (beg W e.1) ws r2 v else 0)) e2.1) (whole ws W.k r1 * whole ws W.k r2) := by
              rw [Nnew, hfr2, N0, Nat.zero_add]
              exact sum_one w1p w2p
            rw [hsum] at hq24
            obtain ⟨s24, y1, y2⟩ := fin H24 q (xx.trans x24) hq24
            exact ⟨_, rfl, _, rfl, sv, _, rfl, DPut.k (k := Sum.inl (e2.1 : Int)) s24 (by rw [List.length_map]; exact Nat.lt_of_le_of_lt lsv4 (by decide)), _, _, rfl, y1, y2⟩
      · subst hσ
        have hN : (fun v => Nn W ws r2 (F.take j) v + (if v ∈ (l.map (·.1)).take (l.map encF).length then e.2 * M (beg W e.1) ws r2 v else 0)) = Nn W ws r2 (F.take (j + 1)) := by
          funext v
          have tk : (l.map (·.1)).take (l.map encF).length = l.map (·.1) := List.take_of_length_le (by rw [List.length_map, List.length_map]; exact Nat.le_refl _)
          rw [Nn_take r2 v he, tk]
          congr 1
          by_cases hm : v ∈ l.map (·.1)
          · rw [if_pos hm]
          · rw [if_neg hm]
            have hnone : ¬ (otab (beg W e.1) ws r2 v).isSome = true := fun z => hm ((b3 v).mpr z)
            unfold otab at hnone
            by_cases z : M (beg W e.1) ws r2 v = 0
            · rw [z, Nat.mul_zero]
            · rw [if_neg z] at hnone
              exact absurd rfl hnone
        rw [hN] at hsv18
        have ff := x18.frzb (fun z => nss (List.mem_singleton.mp z)) sh17
        have x19 : Exb Z [sv] H16 (upd H18 sh (.dK (l.map encF))) := Exb.locked trivial b1 (by rw [eH17]; exact x18) ff
        exact ⟨ff, _, _, _, _, rfl, x1316.trans x19, hsv18.unfrz ff (fun xs z => by cases z)⟩
    · subst hσ
      rw [kvD_len, List.take_of_length_le (Nat.le_refl _), hNn] at hsv13
      have ff := x13.frzb (fun z => nfs (List.mem_singleton.mp z)) f12
      have x14 : Exb Z [sv] H11 (upd H13 fd (.dK (kvD F))) := Exb.locked trivial f11 (by rw [eH12]; exact x13) ff
      have hsv14 : FdAt (upd H13 fd (.dK (kvD F))) sv (otab W ws (r1 ++ r2)) := hsv13.unfrz ff (fun xs z => by cases z)
      have L14 := L11.exk x14 s11 (fun kv h => by cases h)
      refine ⟨ff, ?_⟩
      generalize upd H13 fd (.dK (kvD F)) = H14 at hsv14 L14
      have R1 : RowAt K H14 t1 W r1 := ⟨.inr L14.one, by omega, hk1⟩
      have Ww : WsAt K H14 wl W.k ws := ⟨.inl (SqL.of L14.wt), hws6⟩
      have hk12 : Od.Row.Ok W.k (r1 ++ r2) := fun c hc => (List.mem_append.mp hc).elim (hk1 c) (hk2 c)
      refine ⟨_, rfl, _, rfl, _, rfl, cat_run (Z := Z) L14.one L14.two (by rw [rowV_len, rowV_len]; omega) fun tc H15 x15 htc => ?_⟩
      have htc2 : SqT K H15 tc (rowV (r1 ++ r2)) := by
        unfold rowV at htc ⊢
        rw [List.map_append]
        exact htc
      refine ⟨_, rfl, hx, tc, wl, W, r1 ++ r2, ws, rfl, L14.here.ex x15, ok, ⟨.inr htc2, by rw [List.length_append]; omega, hk12⟩, Ww.ex x15, fun o1 H16 x16 _ ho1 => ?_⟩
      obtain ⟨ks, ls, q1, q2, q3, q4⟩ := ho1.eq (K := K) ((hsv14.ex x15).ex x16)
      refine ⟨_, rfl, o1, sv, ks, ls, rfl, rfl, q1, q2, q3, q4, false, rfl, ?_⟩
      have L16 := (L14.ex x15).ex x16
      -- times
      refine ⟨_, rfl, tp, al, cl, 1000, rfl, L16.tape, by decide, by decide, fun tv H17 htv x17 hT17 => ?_⟩
      have L17 := L16.exd x17 hT17 nwl.1 nwl.2.1
      refine ⟨_, _, rfl, rfl, ?_⟩
      have tb : 2 + tv ≤ 1001 := by omega
      have etv : (2 : Int) + (tv : Int) = ((2 + tv : Nat) : Int) := by omega
      have t0 : 0 < 2 + tv := by omega
      show gName 15 (V.int ((2 : Int) + (tv : Int))) _ H17 _
      rw [etv]
      generalize 2 + tv = t at tb t0
      refine ⟨_, rfl, wl, _, rfl, .inl (SqL.of L17.wt), fun J G wk hG sc hsc => ?_⟩
      rw [lineV_len] at wk
      refine lcE (B := []) (Z := Z) wk hsc (hG Z [] · (by simp)) (by omega) (fun i acc _ => acc = lineV i (times t ws)) rfl (fun i acc x H18 H19 hi x18 ha hla hpi hy => ?_) fun acc H18 x18 ha hpi => ?_
      · obtain ⟨rfl, hx⟩ := hy
        obtain ⟨hc, rfl⟩ := lineV_get hx
        have hmul : ((ws i : Nat) : Int) * ((t : Nat) : Int) = ((times t ws i : Nat) : Int) := by
          rw [← Int.natCast_mul, Nat.mul_comm]
        refine ⟨rfl, _, rfl, _, rfl, _, _, rfl, rfl, wide_mul (a := 20) (b := 20) (by rw [Int.natAbs_natCast]; have := (hws6 i hc).2; omega) (by rw [Int.natAbs_natCast]; omega) (by decide) (by decide) (by decide), LcP.put x18 hsc ha (by simp) hla (by omega) (Exb.refl _) ?_⟩
        rw [hpi, ← lineV_succ]
        show _ ++ [V.int (((ws i : Nat) : Int) * ((t : Nat) : Int))] = _
        rw [hmul]
      subst hpi
      have L18 := L17.ex x18
      have hwt : ∀ c < W.k, 1 ≤ times t ws c ∧ times t ws c ≤ 1000000 := fun c hc => by
        have := hws c hc
        have h1 : t * ws c ≤ 1001 * 30 := Nat.mul_le_mul tb this.2
        have h2 : 1 ≤ t * ws c := Nat.mul_pos t0 this.1
        exact ⟨h2, by show t * ws c ≤ 1000000; omega⟩
      have hodds : otab W (times t ws) r1 = otab W ws r1 := funext fun v => otab_times t0 k1 hw0 r1 v
      -- weights times a number
      refine ⟨_, rfl, _, rfl, _, rfl, hx, t1, sc, W, r1, times t ws, rfl, L18.here, ok, ⟨.inr L18.one, by omega, hk1⟩, ⟨.inl (SqL.of ha), hwt⟩, fun o2 H19 x19 _ ho2 => ?_⟩
      rw [hodds] at ho2
      have L19 := L18.ex x19
      refine ⟨_, rfl, _, rfl, _, rfl, hx, t1, wl, W, r1, ws, rfl, L19.here, ok, ⟨.inr L19.one, by omega, hk1⟩, ⟨.inl (SqL.of L19.wt), hws6⟩, fun o3 H20 x20 _ ho3 => ?_⟩
      obtain ⟨ks2, ls2, q5, q6, q7, q8⟩ := (ho2.ex x20).eq (K := K) ho3
      refine ⟨o2, o3, ks2, ls2, rfl, rfl, q5, q6, q7, q8, false, rfl, ?_⟩
      have L20 := L19.ex x20
      have ha20 := (x19.trans x20).lst ha
      refine ⟨_, rfl, _, rfl, hx, sc, W, times t ws, 9, rfl, L20.here, ok, ⟨.inl (SqL.of ha20), hwt⟩, by decide, fun s1 H21 x21 hs1 => ?_⟩
      have L21 := L20.ex x21
      refine ⟨_, rfl, _, rfl, hx, wl, W, ws, 9, rfl, L21.here, ok, ⟨.inl (SqL.of L21.wt), hws6⟩, by decide, fun s2 H22 x22 hs2 => ?_⟩
      have hsure : (List.range (9 + 1)).map (fun i => frac (foundN W (times t ws) 9 i) (Od.sumTo (times t ws) W.k ^ 9)) = (List.range (9 + 1)).map (fun i => frac (foundN W ws 9 i) (Od.sumTo ws W.k ^ 9)) := by
        apply List.map_congr_left
        intro i hi
        have := List.mem_range.mp hi
        rw [found_times t 9 i (by omega), sumTo_times, Nat.mul_pow]
        exact frac_scale (Nat.pow_pos (sumTo_pos k1 hw0)) (Nat.pow_pos t0)
      rw [hsure] at hs1
      refine ne_same (hs1.ex x22).dp hs2.dp (frs_shaped _) ⟨false, rfl, ?_⟩
      have L22 := L21.ex x22
      have ha22 := (x21.trans x22).lst ha20
      -- most_telling
      refine ⟨_, rfl, _, rfl, _, rfl, hx, t1, sc, W, r1, times t ws, rfl, L22.here, ok, ⟨.inr L22.one, by omega, hk1⟩, ⟨.inl (SqL.of ha22), hwt⟩, fun m1 H23 x23 hm1 => ?_⟩
      have L23 := L22.ex x23
      refine ⟨_, rfl, _, rfl, _, rfl, hx, t1, wl, W, r1, ws, rfl, L23.here, ok, ⟨.inr L23.one, by omega, hk1⟩, ⟨.inl (SqL.of L23.wt), hws6⟩, fun m2 H24 x24 hm2 => ?_⟩
      rw [mt_times t0 k1 hw0 r1] at hm1
      refine ne_same (hm1.ex x24).dp hm2.dp (mtD_shaped _) ⟨false, rfl, ?_⟩
      have L24 := L23.ex x24
      -- wide
      obtain ⟨mm, wdd, rs2, g1', g2', g3', g4', g5'⟩ := id L24.raw
      refine ⟨_, rfl, _, _, ((0 : Nat) : Int), .ref mm, rfl, rfl, g1', atI_nat rfl, mm, _, rfl, .inr g2', fun J G wk hG D1 hD1 => ?_⟩
      rw [List.length_map, g3'] at wk
      refine lcE (B := []) (Z := Z) wk hD1 (hG Z [] · (by simp)) (by omega) (PiT K (W.k + 1) (wide W).mv) ⟨[], rfl, rfl, fun j t e => by simp at e⟩ (fun i acc x H25 H26 hi x25 ha25 hla hpi hy => ?_) fun acc H25 x25 ha25 hpi => ?_
      · obtain ⟨rfl, hx⟩ := hy
        rw [List.getElem?_map, List.getElem?_eq_getElem (by omega)] at hx
        obtain rfl := Option.some.inj hx
        have hrow := x25.sqT (g4' i _ (List.getElem?_eq_getElem (by omega)))
        refine ⟨rfl, _, rfl, _, rfl, _, _, ((0 : Nat) : Int), .int (W.mv i 0 : Nat), rfl, rfl, hrow, atI_nat (lineV_at k1), by show 1 ≤ sizeLine; decide, fun pt npt => ?_⟩
        have x26 : Ex Z H26 (upd H26 pt (.tup [.int (W.mv i 0 : Nat)])) := Ex.new npt
        refine cat_run (Z := Z) (x26.sqT hrow) (SqT.of upd_same) (by rw [lineV_len]; show W.k + 1 ≤ 1000; omega) fun pc H27 x27 hpc => ?_
        rw [lineV_snoc] at hpc
        have x257 := x26.trans x27
        exact LcP.put x25 hD1 ha25 (by simp) hla (by omega) x257 (hpi.step x257 (x257.lst ha25) hpc)
      obtain ⟨ts2, rfl, hts2, hti2⟩ := hpi
      have L25 := L24.ex x25
      refine ⟨_, rfl, _, _, ((1 : Nat) : Int), .ref wdd, rfl, rfl, x25.sqT g1', atI_nat rfl, wdd, _, rfl, .inr (x25.sqT g5'), fun wb nwb => ?_⟩
      have x26 : Ex Z H25 (upd H25 wb (.lst (lineV W.n W.wd))) := Ex.new nwb
      have hb26 : upd H25 wb (.lst (lineV W.n W.wd)) wb = some (.lst (lineV W.n W.wd)) := upd_same
      generalize upd H25 wb (.lst (lineV W.n W.wd)) = H26 at x26 hb26
      have L26 := L25.ex x26
      have okW := wide_ok ok k3
      refine fun wx dx nx nd ne => ?_
      have x27 : Ex Z H26 (upd (upd H26 dx (.own wx)) wx (.ins C dx [])) := mk_ex nx nd ne
      refine ⟨wx, D1, wb, dx, wide W, rfl, upd_same, ⟨ts2, .inl (SqL.of ((x26.trans x27).lst ha25)), by rw [hts2]; rfl, fun j t e => .inr ((x26.trans x27).sqT (hti2 j t e))⟩, .inl (SqL.of (x27.lst hb26)), okW, x27.2 L26.tabs, fun H27 xb hwide27 => ⟨rfl, ?_⟩⟩
      have L27 := L26.ex (Exb.unb x27 nx xb)
      -- fewer than four
      refine ⟨_, rfl, wl, _, rfl, .inl (SqL.of L27.wt), _, _, rfl, rfl, true, blT (by rw [lineV_len]; omega), ?_⟩
      refine ⟨_, rfl, tp, al, cl, 30, rfl, L27.tape, by decide, by decide, fun pv0 H28 hpv x28 hT28 => ?_⟩
      have L28 := L27.exd x28 hT28 nwl.1 nwl.2.1
      have hwide28 := hwide27.exb x28 L27.tape.ml
      refine ⟨_, _, rfl, rfl, ?_⟩
      have epv : (1 : Int) + (pv0 : Int) = ((1 + pv0 : Nat) : Int) := by omega
      have xb30 : 1 + pv0 ≤ 30 := by omega
      have xb1 : 1 ≤ 1 + pv0 := by omega
      show gName 14 (V.int ((1 : Int) + (pv0 : Int))) _ H28 _
      rw [epv]
      generalize 1 + pv0 = xp at xb30 xb1
      -- parted, joined
      refine ⟨_, rfl, _, rfl, by show 1 ≤ sizeLine; decide, fun la nla => ?_⟩
      have x29 : Ex Z H28 (upd H28 la (.lst [.int (xp : Nat)])) := Ex.new nla
      refine ⟨wl, la, _, _, rfl, rfl, x29.lst L28.wt, upd_same, by rw [lineV_len]; exact Nat.le_trans (show W.k + 1 ≤ 5 by omega) (by decide), fun pd npd => ?_⟩
      have x30 : Ex Z H28 (upd (upd H28 la (.lst [.int (xp : Nat)])) pd (.lst (lineV W.k ws ++ [.int (xp : Nat)]))) := x29.trans (Ex.new npd)
      have hpd30 : upd (upd H28 la (.lst [.int (xp : Nat)])) pd (.lst (lineV W.k ws ++ [.int (xp : Nat)])) pd = some (.lst (lineV (W.k + 1) (parted W.k ws xp))) := by
        rw [upd_same, lineV_snoc]
        rfl
      generalize upd (upd H28 la (.lst [.int (xp : Nat)])) pd (.lst (lineV W.k ws ++ [.int (xp : Nat)])) = H30 at x30 hpd30
      have L30 := L28.ex x30
      refine ⟨_, rfl, wl, _, ((0 : Nat) : Int), .int (ws 0 : Nat), rfl, rfl, SqL.of L30.wt, atI_nat (lineV_at k1), _, rfl, _, _, rfl, rfl, by show 1 ≤ sizeLine; decide, fun lb nlb => ?_⟩
      have x31 : Ex Z H30 (upd H30 lb (.lst [.int ((ws 0 : Nat) + (xp : Int))])) := Ex.new nlb
      have hb31 : upd H30 lb (.lst [.int ((ws 0 : Nat) + (xp : Int))]) lb = some (.lst [.int ((ws 0 + xp : Nat) : Int)]) := by
        rw [upd_same, Int.natCast_add]
      generalize upd H30 lb (.lst [.int ((ws 0 : Nat) + (xp : Int))]) = H31 at x31 hb31
      refine ⟨_, rfl, 1, rfl, wl, _, rfl, SqL.of (x31.lst L30.wt), fun lc nlc => ?_⟩
      rw [cut_one _ (by rw [lineV_len]; exact k1)]
      have x32 : Ex Z H31 (upd H31 lc (.lst ((lineV W.k ws).drop 1))) := Ex.new nlc
      refine ⟨lb, lc, _, _, rfl, rfl, x32.lst hb31, upd_same, by rw [List.length_drop, lineV_len]; exact Nat.le_trans (show 1 + (W.k - 1) ≤ 5 by omega) (by decide), fun jd njd => ?_⟩
      have x33 : Ex Z H31 (upd (upd H31 lc (.lst ((lineV W.k ws).drop 1))) jd (.lst ([.int ((ws 0 + xp : Nat) : Int)] ++ (lineV W.k ws).drop 1))) := x32.trans (Ex.new njd)
      have hjd33 : upd (upd H31 lc (.lst ((lineV W.k ws).drop 1))) jd (.lst ([.int ((ws 0 + xp : Nat) : Int)] ++ (lineV W.k ws).drop 1)) jd = some (.lst (lineV W.k (joined ws xp))) := by
        rw [upd_same, lineV_cut W.k ws xp k1]
      generalize upd (upd H31 lc (.lst ((lineV W.k ws).drop 1))) jd (.lst ([.int ((ws 0 + xp : Nat) : Int)] ++ (lineV W.k ws).drop 1)) = H33 at x33 hjd33
      have x3033 := x31.trans x33
      have L33 := L30.ex x3033
      have hpd33 := x3033.lst hpd30
      have hwide33 := (hwide28.ex x30).ex x3033
      have hpk := parted_ok (k := W.k) (ws := ws) (x := xp) hws6 ⟨xb1, by omega⟩
      have hjk := joined_ok (k := W.k) (ws := ws) (x := xp) hws xb30
      have al := wide_alike ok ws xp
      refine ⟨_, _, rfl, ?_⟩
      have hrw : otab (wide W) (parted W.k ws xp) r1 = otab W (joined ws xp) r1 := funext fun v => otab_alike al n1 r1 r1 (wide_rows hk1) v
      have hkw : Od.Row.Ok (wide W).k r1 := fun c hc => Nat.lt_succ_of_lt (hk1 c hc)
      -- the kinds made one
      refine ⟨_, rfl, _, rfl, _, rfl, wx, t1, pd, wide W, r1, parted W.k ws xp, rfl, hwide33, okW, ⟨.inr L33.one, by omega, hkw⟩, ⟨.inl (SqL.of hpd33), hpk⟩, fun o4 H34 x34 _ ho4 => ?_⟩
      rw [hrw] at ho4
      have L34 := L33.ex x34
      refine ⟨_, rfl, _, rfl, _, rfl, hx, t1, jd, W, r1, joined ws xp, rfl, L34.here, ok, ⟨.inr L34.one, by omega, hk1⟩, ⟨.inl (SqL.of (x34.lst hjd33)), hjk⟩, fun o5 H35 x35 _ ho5 => ?_⟩
      obtain ⟨ks3, ls3, q9, q10, q11, q12⟩ := (ho4.ex x35).eq (K := K) ho5
      refine ⟨o4, o5, ks3, ls3, rfl, rfl, q9, q10, q11, q12, false, rfl, ?_⟩
      have x3335 := x34.trans x35
      have L35 := L33.ex x3335
      refine ⟨_, rfl, _, rfl, wx, pd, wide W, parted W.k ws xp, 12, rfl, hwide33.ex x3335, okW, ⟨.inl (SqL.of (x3335.lst hpd33)), hpk⟩, by decide, fun y1 H36 x36 hy1 => ?_⟩
      have L36 := L35.ex x36
      refine ⟨_, rfl, _, rfl, hx, jd, W, joined ws xp, 12, rfl, L36.here, ok, ⟨.inl (SqL.of ((x3335.trans x36).lst hjd33)), hjk⟩, by decide, fun y2 H37 x37 hy2 => ?_⟩
      have hmean := mean_wide ok (ws := ws) (x := xp) (fun c hc => (hjk c hc).1) 12
      rw [hmean] at hy1
      refine ne_same (FracAt.dp (hy1.ex x37)) (FracAt.dp hy2) rfl ⟨false, rfl, ?_⟩
      have x3337 := (x3335.trans x36).trans x37
      have L37 := L33.ex x3337
      -- named
      refine ⟨_, rfl, t1, _, rfl, .inr L37.one, fun J G wk hG D2 hD2 => ?_⟩
      rw [rowV_len] at wk
      refine lcE (B := []) (Z := Z) wk hD2 (hG Z [] · (by simp)) (by omega) (fun i acc _ => acc = rowV ((named W.k r1).take i)) rfl (fun i acc x H38 H39 hi x38 ha38 hla hpi hy => ?_) fun acc H38 x38 ha38 hpi => ?_
      · obtain ⟨rfl, hx⟩ := hy
        obtain ⟨c, hc, rfl⟩ := rowV_get hx
        have hn : (named W.k r1)[i]? = some (if c = some 0 then some W.k else c) := by
          unfold named
          rw [List.getElem?_map, hc]
          rfl
        have fin : ∀ v, v = itemV (if c = some 0 then some W.k else c) → acc ++ [v] = rowV ((named W.k r1).take (i + 1)) := fun v hv => by
          rw [List.take_add_one, hn, hpi, hv]
          exact rowV_snoc _ _
        by_cases z : c = some 0
        · refine ⟨rfl, _, rfl, by rw [z]; rfl, true, eqT (by rw [z]; rfl), _, rfl, wl, _, rfl, .inl (SqL.of (x38.lst L37.wt)), LcP.put x38 hD2 ha38 (by simp) hla (by omega) (Exb.refl _) (fin _ ?_)⟩
          rw [if_pos z, lineV_len]
          rfl
        · refine ⟨rfl, _, rfl, by cases c <;> rfl, false, eqF (fun y => z (by
            cases c with
            | none => cases y
            | some c =>
              have := V.int.inj y
              exact congrArg some (by omega))), _, rfl, LcP.put x38 hD2 ha38 (by simp) hla (by omega) (Exb.refl _) (fin _ ?_)⟩
          rw [if_neg z]
      have nl : (named W.k r1).length = r1.length := List.length_map ..
      rw [List.take_of_length_le (by rw [nl]; exact Nat.le_refl _)] at hpi
      subst hpi
      refine ⟨D2, _, rfl, .inl ⟨SqL.of ha38, fun nt nnt => ?_⟩⟩
      have x39 : Ex Z H38 (upd H38 nt (.tup (rowV (named W.k r1)))) := Ex.new nnt
      have hnt39 : SqT K (upd H38 nt (.tup (rowV (named W.k r1)))) nt (rowV (named W.k r1)) := SqT.of upd_same
      generalize upd H38 nt (.tup (rowV (named W.k r1))) = H39 at x39 hnt39
      have x3339 := (x3337.trans x38).trans x39
      have L39 := L33.ex x3339
      have hrn : otab (wide W) (parted W.k ws xp) (named W.k r1) = otab W (joined ws xp) r1 := funext fun v => otab_alike al n1 _ r1 (named_rows k1 hk1) v
      have hkn : Od.Row.Ok (wide W).k (named W.k r1) := named_ok hk1
      refine ⟨_, rfl, _, rfl, _, rfl, wx, nt, pd, wide W, named W.k r1, parted W.k ws xp, rfl, hwide33.ex x3339, okW, ⟨.inr hnt39, by omega, hkn⟩, ⟨.inl (SqL.of (x3339.lst hpd33)), hpk⟩, fun o6 H40 x40 _ ho6 => ?_⟩
      rw [hrn] at ho6
      have L40 := L39.ex x40
      refine ⟨_, rfl, _, rfl, _, rfl, hx, t1, jd, W, r1, joined ws xp, rfl, L40.here, ok, ⟨.inr L40.one, by omega, hk1⟩, ⟨.inl (SqL.of ((x3339.trans x40).lst hjd33)), hjk⟩, fun o7 H41 x41 _ ho7 => ?_⟩
      obtain ⟨ks4, ls4, q13, q14, q15, q16⟩ := (ho6.ex x41).eq (K := K) ho7
      refine ⟨o6, o7, ks4, ls4, rfl, rfl, q13, q14, q15, q16, false, rfl, ?_⟩
      have x3941 := x40.trans x41
      have x3341 := x3339.trans x3941
      have L41 := L33.ex x3341
      refine ⟨_, rfl, _, rfl, _, rfl, wx, nt, pd, wide W, named W.k r1, parted W.k ws xp, rfl, hwide33.ex x3341, okW, ⟨.inr (x3941.sqT hnt39), by omega, hkn⟩, ⟨.inl (SqL.of (x3341.lst hpd33)), hpk⟩, fun z1 H42 x42 hz1 => ?_⟩
      have L42 := L41.ex x42
      refine ⟨_, rfl, _, rfl, _, rfl, hx, t1, jd, W, r1, joined ws xp, rfl, L42.here, ok, ⟨.inr L42.one, by omega, hk1⟩, ⟨.inl (SqL.of ((x3341.trans x42).lst hjd33)), hjk⟩, fun z2 H43 x43 hz2 => ?_⟩
      have hbest := best_wide ok (ws := ws) (x := xp) hk1
      rw [hbest] at hz1
      refine ne_same (BgAt.dp (hz1.ex x43)) (BgAt.dp hz2) rfl ⟨false, rfl, ?_⟩
      have L43 := L42.ex x43
      exact ⟨_, _, _, _, _, _, _, _, _, _, _, _, _, _, _, _, _, _, _, _, _, _, _, rfl, L43.tape, L43.tabs⟩
  · subst hσ
    refine ⟨by show 2 ≤ sizeLine; decide, fun a1 na1 => ⟨by show 2 ≤ sizeLine; decide, fun a2 na2 => ⟨by show 2 ≤ sizeLine; decide, fun a3 na3 => ⟨by show 3 ≤ sizeLine; decide, fun ml nml => ⟨by show 3 ≤ sizeLine; decide, fun wl nwl => ?_⟩⟩⟩⟩⟩
    have y1 : Ex Z H2 (upd H2 a1 (.tup [.int 0, .int 1])) := Ex.new na1
    have h1 : SqT K (upd H2 a1 (.tup [.int 0, .int 1])) a1 (lineV 2 (fallsW.mv 0)) := SqT.of upd_same
    generalize upd H2 a1 (.tup [.int 0, .int 1]) = G1 at *
    have y2 : Ex Z G1 (upd G1 a2 (.tup [.int 0, .int 2])) := Ex.new na2
    have h2 : SqT K (upd G1 a2 (.tup [.int 0, .int 2])) a2 (lineV 2 (fallsW.mv 1)) := SqT.of upd_same
    generalize upd G1 a2 (.tup [.int 0, .int 2]) = G2 at *
    have y3 : Ex Z G2 (upd G2 a3 (.tup [.int 2, .int 2])) := Ex.new na3
    have h3 : SqT K (upd G2 a3 (.tup [.int 2, .int 2])) a3 (lineV 2 (fallsW.mv 2)) := SqT.of upd_same
    generalize upd G2 a3 (.tup [.int 2, .int 2]) = G3 at *
    have y4 : Ex Z G3 (upd G3 ml (.lst [.ref a1, .ref a2, .ref a3])) := Ex.new nml
    have h4 : upd G3 ml (.lst [.ref a1, .ref a2, .ref a3]) ml = some (.lst ([a1, a2, a3].map V.ref)) := upd_same
    generalize upd G3 ml (.lst [.ref a1, .ref a2, .ref a3]) = G4 at *
    have y5 : Ex Z G4 (upd G4 wl (.lst [.int 0, .int 0, .int 1])) := Ex.new nwl
    have h5 : upd G4 wl (.lst [.int 0, .int 0, .int 1]) wl = some (.lst (lineV 3 fallsW.wd)) := upd_same
    generalize upd G4 wl (.lst [.int 0, .int 0, .int 1]) = G5 at *
    refine fun fx dx nx nd ne => ?_
    have y6 : Ex Z G5 (upd (upd G5 dx (.own fx)) fx (.ins C dx [])) := mk_ex nx nd ne
    have y15 := (((y1.trans y2).trans y3).trans y4).trans y5
    refine ⟨fx, ml, wl, dx, fallsW, rfl, upd_same, ⟨[a1, a2, a3], .inl (SqL.of ((y5.trans y6).lst h4)), rfl, fun j t e => ?_⟩, .inl (SqL.of (y6.lst h5)), falls_ok, (y15.trans y6).2 hZ2, fun G6 xb hfx => ⟨rfl, ?_⟩⟩
    · match j, e with
      | 0, e => rw [← Option.some.inj e]; exact .inr ((((y2.trans y3).trans y4).trans (y5.trans y6)).sqT h1)
      | 1, e => rw [← Option.some.inj e]; exact .inr (((y3.trans y4).trans (y5.trans y6)).sqT h2)
      | 2, e => rw [← Option.some.inj e]; exact .inr ((y4.trans (y5.trans y6)).sqT h3)
      | _ + 3, e => simp at e
    clear y6 xb
    refine ⟨_, rfl, by show 2 ≤ sizeLine; decide, fun b1 nb1 => ⟨by show 2 ≤ sizeLine; decide, fun b2 nb2 => ?_⟩⟩
    have z1 : Ex Z G6 (upd G6 b1 (.tup [.int 1, .non])) := Ex.new nb1
    have i1 : SqT K (upd G6 b1 (.tup [.int 1, .non])) b1 (rowV [some 1, none]) := SqT.of upd_same
    generalize upd G6 b1 (.tup [.int 1, .non]) = G7 at *
    have z2 : Ex Z G7 (upd G7 b2 (.tup [.int 3, .int 1])) := Ex.new nb2
    have i2 : SqT K (upd G7 b2 (.tup [.int 3, .int 1])) b2 (lineV 2 fallsWs) := SqT.of upd_same
    generalize upd G7 b2 (.tup [.int 3, .int 1]) = G8 at *
    have z12 := z1.trans z2
    refine ⟨fx, b1, b2, fallsW, [some 1, none], fallsWs, rfl, hfx.ex z12, falls_ok, ⟨.inr (z2.sqT i1), by decide, falls_row⟩, ⟨.inr i2, by decide⟩, fun o1 G9 z9 _ ho1 => ?_⟩
    refine fun dp ndp => ⟨by show 2 ≤ sizeLine; decide, fun q1 nq1 => ⟨by show 2 ≤ sizeLine; decide, fun q2 nq2 => ?_⟩⟩
    have w1 : Ex Z G9 (upd G9 dp (.dK [])) := Ex.new ndp
    have j1 : upd G9 dp (.dK []) dp = some (.dK []) := upd_same
    generalize upd G9 dp (.dK []) = G10 at *
    have w2 : Ex Z G10 (upd G10 q1 (.tup [.int 3, .int 4])) := Ex.new nq1
    have j2 : FracAt (upd G10 q1 (.tup [.int 3, .int 4])) q1 (3, 4) := upd_same
    generalize upd G10 q1 (.tup [.int 3, .int 4]) = G11 at *
    have w3 : Ex Z G11 (upd G11 q2 (.tup [.int 1, .int 4])) := Ex.new nq2
    have j3 : FracAt (upd G11 q2 (.tup [.int 1, .int 4])) q2 (1, 4) := upd_same
    generalize upd G11 q2 (.tup [.int 1, .int 4]) = G12 at *
    have jd := (w2.trans w3).dk j1
    refine ⟨jd, [(Sum.inl 0, .ref q1), (Sum.inl 1, .ref q2)], rfl, by show 2 ≤ 15; decide, ?_⟩
    have w4 : Ex Z G9 (upd G12 dp (.dK (mergeK [] [(Sum.inl 0, .ref q1), (Sum.inl 1, .ref q2)]))) := ((w1.trans w2).trans w3).mut (.inr ndp) (Mb.of jd trivial)
    have hdp : FdAt (upd G12 dp (.dK (mergeK [] [(Sum.inl 0, .ref q1), (Sum.inl 1, .ref q2)]))) dp (otab fallsW fallsWs [some 1, none]) := by
      rw [falls_tab]
      refine ⟨[(0, q1), (1, q2)], upd_same, by show ([0, 1] : List Nat).Nodup; decide, fun v => ?_, fun e he => ?_⟩
      · show v ∈ [0, 1] ↔ _
        by_cases v0 : v = 0
        · simp [v0]
        · by_cases v1 : v = 1
          · simp [v1]
          · simp [v0, v1]
      · simp only [List.mem_cons, List.not_mem_nil, or_false] at he
        rcases he with rfl | rfl
        · exact ⟨(3, 4), rfl, FracAt.put (FracAt.ex w3 j2) (Md.of jd trivial)⟩
        · exact ⟨(1, 4), rfl, FracAt.put j3 (Md.of jd trivial)⟩
    generalize upd G12 dp (.dK (mergeK [] [(Sum.inl 0, .ref q1), (Sum.inl 1, .ref q2)])) = G13 at *
    obtain ⟨ks, ls, e1, e2, e3, e4⟩ := (ho1.ex w4).eq (K := K) hdp
    refine ⟨o1, dp, ks, ls, rfl, rfl, e1, e2, e3, e4, true, rfl, ?_⟩
    refine ⟨_, rfl, by show 2 ≤ sizeLine; decide, fun b3 nb3 => ?_⟩
    have v1 : Ex Z G13 (upd G13 b3 (.tup [.int 1, .int 1])) := Ex.new nb3
    have k1 : SqT K (upd G13 b3 (.tup [.int 1, .int 1])) b3 (lineV 2 (fun _ => 1)) := SqT.of upd_same
    generalize upd G13 b3 (.tup [.int 1, .int 1]) = G14 at *
    refine ⟨fx, b3, fallsW, fun _ => 1, 2, rfl, hfx.ex ((z12.trans z9).trans (w4.trans v1)), falls_ok, ⟨.inr k1, by decide⟩, by decide, fun p1 G15 v2 hp1 => ?_⟩
    rw [falls_mean] at hp1
    refine ⟨by show 2 ≤ sizeLine; decide, fun p2 np2 => ?_⟩
    have v3 : Ex Z G15 (upd G15 p2 (.tup [.int 3, .int 2])) := Ex.new np2
    have hp2 : FracAt (upd G15 p2 (.tup [.int 3, .int 2])) p2 (3, 2) := upd_same
    exact eq_same (FracAt.dp (FracAt.ex v3 hp1)) (FracAt.dp hp2) rfl (hq _)
end
end K62
/-! ==== Hd62 ==== -/
namespace K62
open PySem PySem.Spec PyProof.Rows L2 Fx
/-! the head: facts by names, the run -/
def hd_s_is_number : He.DefD := ⟨("is_number", none), "is_number", "is_number", defArgs s_is_number, defBody s_is_number, defScope s_is_number, [], []⟩
def hd_s_is_between : He.DefD := ⟨("is_between", none), "is_between", "is_between", defArgs s_is_between, defBody s_is_between, defScope s_is_between, [], []⟩
def hd_s_is_list : He.DefD := ⟨("is_list", none), "is_list", "is_list", defArgs s_is_list, defBody s_is_list, defScope s_is_list, [], []⟩
def hd_s_first_wrong : He.DefD := ⟨("first_wrong", none), "first_wrong", "first_wrong", defArgs s_first_wrong, defBody s_first_wrong, defScope s_first_wrong, [], []⟩
def hd_s_is_word : He.DefD := ⟨("is_word", none), "is_word", "is_word", defArgs s_is_word, defBody s_is_word, defScope s_is_word, [], []⟩
def hd_s_is_line : He.DefD := ⟨("is_line", none), "is_line", "is_line", defArgs s_is_line, defBody s_is_line, defScope s_is_line, [], []⟩
def hd_s_need_moves : He.DefD := ⟨("need_moves", none), "need_moves", "need_moves", defArgs s_need_moves, defBody s_need_moves, defScope s_need_moves, [], []⟩
def hd_s_need_words : He.DefD := ⟨("need_words", none), "need_words", "need_words", defArgs s_need_words, defBody s_need_words, defScope s_need_words, [], []⟩
def hd_s_Watch_init : He.DefD := ⟨("Watch", some "__init__"), "__init__", "Watch.__init__", defArgs s_Watch_init, defBody s_Watch_init, defScope s_Watch_init, [], []⟩
def hd_s_Watch_eq : He.DefD := ⟨("Watch", some "__eq__"), "__eq__", "Watch.__eq__", defArgs s_Watch_eq, defBody s_Watch_eq, defScope s_Watch_eq, [], []⟩
def hd_s_need_watch : He.DefD := ⟨("need_watch", none), "need_watch", "need_watch", defArgs s_need_watch, defBody s_need_watch, defScope s_need_watch, [.non], []⟩
def hd_s_need_shown : He.DefD := ⟨("need_shown", none), "need_shown", "need_shown", defArgs s_need_shown, defBody s_need_shown, defScope s_need_shown, [], []⟩
def hd_s_need_weights : He.DefD := ⟨("need_weights", none), "need_weights", "need_weights", defArgs s_need_weights, defBody s_need_weights, defScope s_need_weights, [], []⟩
def hd_s_divisor : He.DefD := ⟨("divisor", none), "divisor", "divisor", defArgs s_divisor, defBody s_divisor, defScope s_divisor, [], []⟩
def hd_s_power : He.DefD := ⟨("power", none), "power", "power", defArgs s_power, defBody s_power, defScope s_power, [], []⟩
def hd_s_fraction_of : He.DefD := ⟨("fraction_of", none), "fraction_of", "fraction_of", defArgs s_fraction_of, defBody s_fraction_of, defScope s_fraction_of, [], []⟩
def hd_s_heavier_by : He.DefD := ⟨("heavier_by", none), "heavier_by", "heavier_by", defArgs s_heavier_by, defBody s_heavier_by, defScope s_heavier_by, [], []⟩
def hd_s_numbers_by : He.DefD := ⟨("numbers_by", none), "numbers_by", "numbers_by", defArgs s_numbers_by, defBody s_numbers_by, defScope s_numbers_by, [], []⟩
def hd_s_words_by : He.DefD := ⟨("words_by", none), "words_by", "words_by", defArgs s_words_by, defBody s_words_by, defScope s_words_by, [], []⟩
def hd_s_odds_by : He.DefD := ⟨("odds_by", none), "odds_by", "odds_by", defArgs s_odds_by, defBody s_odds_by, defScope s_odds_by, [], []⟩
def hd_s_need_odds : He.DefD := ⟨("need_odds", none), "need_odds", "need_odds", defArgs s_need_odds, defBody s_need_odds, defScope s_need_odds, [], []⟩
def hd_s_odds : He.DefD := ⟨("odds", none), "odds", "odds", defArgs s_odds, defBody s_odds, defScope s_odds, [], []⟩
def hd_s_words_of : He.DefD := ⟨("words_of", none), "words_of", "words_of", defArgs s_words_of, defBody s_words_of, defScope s_words_of, [], []⟩
def hd_s_later_words : He.DefD := ⟨("later_words", none), "later_words", "later_words", defArgs s_later_words, defBody s_later_words, defScope s_later_words, [], []⟩
def hd_s_sure_at : He.DefD := ⟨("sure_at", none), "sure_at", "sure_at", defArgs s_sure_at, defBody s_sure_at, defScope s_sure_at, [], []⟩
def hd_s_need_timed : He.DefD := ⟨("need_timed", none), "need_timed", "need_timed", defArgs s_need_timed, defBody s_need_timed, defScope s_need_timed, [], []⟩
def hd_s_sure_times : He.DefD := ⟨("sure_times", none), "sure_times", "sure_times", defArgs s_sure_times, defBody s_sure_times, defScope s_sure_times, [], []⟩
def hd_s_mean_sure : He.DefD := ⟨("mean_sure", none), "mean_sure", "mean_sure", defArgs s_mean_sure, defBody s_mean_sure, defScope s_mean_sure, [], []⟩
def hd_s_greatest_of : He.DefD := ⟨("greatest_of", none), "greatest_of", "greatest_of", defArgs s_greatest_of, defBody s_greatest_of, defScope s_greatest_of, [], []⟩
def hd_s_best_guess : He.DefD := ⟨("best_guess", none), "best_guess", "best_guess", defArgs s_best_guess, defBody s_best_guess, defScope s_best_guess, [], []⟩
def hd_s_with_item : He.DefD := ⟨("with_item", none), "with_item", "with_item", defArgs s_with_item, defBody s_with_item, defScope s_with_item, [], []⟩
def hd_s_guessed_by : He.DefD := ⟨("guessed_by", none), "guessed_by", "guessed_by", defArgs s_guessed_by, defBody s_guessed_by, defScope s_guessed_by, [], []⟩
def hd_s_is_above : He.DefD := ⟨("is_above", none), "is_above", "is_above", defArgs s_is_above, defBody s_is_above, defScope s_is_above, [], []⟩
def hd_s_most_telling : He.DefD := ⟨("most_telling", none), "most_telling", "most_telling", defArgs s_most_telling, defBody s_most_telling, defScope s_most_telling, [], []⟩
def hd_s_law_begun : He.DefD := ⟨("_law_begun", none), "_law_begun", "_law_begun", defArgs s_law_begun, defBody s_law_begun, defScope s_law_begun, [], []⟩
def hd_s_law_blend : He.DefD := ⟨("_law_blend", none), "_law_blend", "_law_blend", defArgs s_law_blend, defBody s_law_blend, defScope s_law_blend, [], []⟩
def hd_s_law_draw : He.DefD := ⟨("_law_draw", none), "_law_draw", "_law_draw", defArgs s_law_draw, defBody s_law_draw, defScope s_law_draw, [], []⟩
def hd_s_law_pick : He.DefD := ⟨("_law_pick", none), "_law_pick", "_law_pick", defArgs s_law_pick, defBody s_law_pick, defScope s_law_pick, [], []⟩
def hd_s_law_watch : He.DefD := ⟨("_law_watch", none), "_law_watch", "_law_watch", defArgs s_law_watch, defBody s_law_watch, defScope s_law_watch, [], []⟩
def hd_s_law_made : He.DefD := ⟨("_law_made", none), "_law_made", "_law_made", defArgs s_law_made, defBody s_law_made, defScope s_law_made, [], []⟩
def hd_s_law_row : He.DefD := ⟨("_law_row", none), "_law_row", "_law_row", defArgs s_law_row, defBody s_law_row, defScope s_law_row, [], []⟩
def hd_s_law_weights : He.DefD := ⟨("_law_weights", none), "_law_weights", "_law_weights", defArgs s_law_weights, defBody s_law_weights, defScope s_law_weights, [], []⟩
def hd_s_law_common : He.DefD := ⟨("_law_common", none), "_law_common", "_law_common", defArgs s_law_common, defBody s_law_common, defScope s_law_common, [], []⟩
def hd_s_law_fraction : He.DefD := ⟨("_law_fraction", none), "_law_fraction", "_law_fraction", defArgs s_law_fraction, defBody s_law_fraction, defScope s_law_fraction, [], []⟩
def hd_s_law_numbers : He.DefD := ⟨("_law_numbers", none), "_law_numbers", "_law_numbers", defArgs s_law_numbers, defBody s_law_numbers, defScope s_law_numbers, [], []⟩
def hd_s_law_shown_row : He.DefD := ⟨("_law_shown_row", none), "_law_shown_row", "_law_shown_row", defArgs s_law_shown_row, defBody s_law_shown_row, defScope s_law_shown_row, [], []⟩
def hd_s_law_sum : He.DefD := ⟨("_law_sum", none), "_law_sum", "_law_sum", defArgs s_law_sum, defBody s_law_sum, defScope s_law_sum, [], []⟩
def hd_s_law_begun_at : He.DefD := ⟨("_law_begun_at", none), "_law_begun_at", "_law_begun_at", defArgs s_law_begun_at, defBody s_law_begun_at, defScope s_law_begun_at, [], []⟩
def hd_s_law : He.DefD := ⟨("law", none), "law", "law", defArgs s_law, defBody s_law, defScope s_law, [], []⟩
def hfn0 : List He.DefD := [hd_s_is_number, hd_s_is_between, hd_s_is_list, hd_s_first_wrong, hd_s_is_word, hd_s_is_line, hd_s_need_moves, hd_s_need_words, hd_s_Watch_init, hd_s_Watch_eq, hd_s_need_watch, hd_s_need_shown, hd_s_need_weights, hd_s_divisor, hd_s_power, hd_s_fraction_of, hd_s_heavier_by, hd_s_numbers_by, hd_s_words_by, hd_s_odds_by]
def hfn1 : List He.DefD := [hd_s_need_odds, hd_s_odds, hd_s_words_of, hd_s_later_words, hd_s_sure_at, hd_s_need_timed, hd_s_sure_times, hd_s_mean_sure, hd_s_greatest_of, hd_s_best_guess, hd_s_with_item, hd_s_guessed_by, hd_s_is_above, hd_s_most_telling, hd_s_law_begun, hd_s_law_blend, hd_s_law_draw, hd_s_law_pick, hd_s_law_watch, hd_s_law_made]
def hfn2 : List He.DefD := [hd_s_law_row, hd_s_law_weights, hd_s_law_common, hd_s_law_fraction, hd_s_law_numbers, hd_s_law_shown_row, hd_s_law_sum, hd_s_law_begun_at, hd_s_law]
def hfn : List He.DefD := hfn0 ++ hfn1 ++ hfn2
def hfa0 : List He.Fa := [.glo "is_number", .glo "is_between", .glo "is_list", .glo "first_wrong", .glo "is_word", .glo "is_line", .glo "need_moves", .glo "need_words", .glo "need_watch", .glo "need_shown", .glo "need_weights", .glo "divisor", .glo "power", .glo "fraction_of", .glo "heavier_by", .glo "numbers_by", .glo "words_by", .glo "odds_by", .glo "need_odds", .glo "odds"]
def hfa1 : List He.Fa := [.glo "words_of", .glo "later_words", .glo "sure_at", .glo "need_timed", .glo "sure_times", .glo "mean_sure", .glo "greatest_of", .glo "best_guess", .glo "with_item", .glo "guessed_by", .glo "is_above", .glo "most_telling", .glo "_law_begun", .glo "_law_blend", .glo "_law_draw", .glo "_law_pick", .glo "_law_watch", .glo "_law_made", .glo "_law_row", .glo "_law_weights"]
def hfa2 : List He.Fa := [.glo "_law_common", .glo "_law_fraction", .glo "_law_numbers", .glo "_law_shown_row", .glo "_law_sum", .glo "_law_begun_at", .glo "law", .glo "Watch", .free "ValueError", .free "abs", .free "all", .free "bool", .free "enumerate", .free "int", .free "isinstance", .free "len", .free "list", .free "max", .free "min", .free "property"]
def hfa3 : List He.Fa := [.free "range", .free "sorted", .free "sum", .free "super", .free "tuple", .int "MOST_EVENTS" 300, .int "MOST_KINDS" 4, .int "MOST_WORD" 3, .int "MOST_PLACES" 6, .int "MOST_PRICE" 1000000, .int "MOST_LENGTH" 40, .cls "Watch", .mkr "Watch", .noat "Watch" "own_moves", .noat "Watch" "own_words"]
def hfa : List He.Fa := hfa0 ++ hfa1 ++ hfa2 ++ hfa3
def hnm0 : List Str := ["WatchError", "PartError", "ItemError", "BadNumber", "NoWatch", "BadMoves", "BadWords", "BadShown", "BadWeights", "is_number", "is_between", "is_list", "MOST_EVENTS", "MOST_KINDS", "MOST_WORD", "first_wrong", "is_word", "MOST_PLACES", "is_line", "need_moves", "need_words", "Watch", "need_watch", "need_shown", "MOST_PRICE", "need_weights", "divisor", "power", "fraction_of", "heavier_by"]
def hnm1 : List Str := ["numbers_by", "words_by", "odds_by", "need_odds", "odds", "MOST_LENGTH", "words_of", "later_words", "sure_at", "need_timed", "sure_times", "mean_sure", "greatest_of", "best_guess", "with_item", "guessed_by", "is_above", "most_telling", "_law_begun", "_law_blend", "_law_draw", "_law_pick", "_law_watch", "_law_made", "_law_row", "_law_weights", "_law_common", "_law_fraction", "_law_numbers", "_law_shown_row"]
def hnm2 : List Str := ["_law_sum", "_law_begun_at"]
def hnm : List Str := hnm0 ++ hnm1 ++ hnm2
def lawAt : Nat := 72
def inProp (c : Stmt) (j : Nat) : Stmt := inClass c j
def gd_moves : GetD := ⟨("Watch", "moves"), "moves", "Watch.moves", defArgs (inProp (topS 25) 1), defBody (inProp (topS 25) 1), defScope (inProp (topS 25) 1)⟩
def gd_words : GetD := ⟨("Watch", "words"), "words", "Watch.words", defArgs (inProp (topS 25) 2), defBody (inProp (topS 25) 2), defScope (inProp (topS 25) 2)⟩
def gd_kinds : GetD := ⟨("Watch", "kinds"), "kinds", "Watch.kinds", defArgs (inProp (topS 25) 3), defBody (inProp (topS 25) 3), defScope (inProp (topS 25) 3)⟩
def hgt : List GetD := [gd_moves, gd_words, gd_kinds]
def htf : List He.Defn := [("need_moves", none)]
def hex_ (K : PySem.W.Frag) : Bool := insB K "Watch"
abbrev R : PySem.W.OpenRow := PySem.W.OpenLaw.row PySem.Challenge.rw_whytold_k62_whole_odds_piece_by_piece
abbrev hk : PySem.W.Hook := hookP 6 hfa hfn htf hgt hex_
def ob (s : PySem.W.SharedT) : AlP := obsP 6 hfa hfn htf hgt hex_ (HandSHeadRun.getT s)
theorem ob_eq (s : PySem.W.SharedT) : ob s = hk.obs s.abs := obsP_eq (HandSHeadRun.getT_eq s)
theorem run (w : World) : HandSHeadRun.RunEq R (PySem.W.view R.prog [72]) hk ob 9000 hnm w := by
  intro os
  kernel_rfl
end K62
/-! ==== E62 ==== -/
namespace K62
open PySem PySem.Spec PyProof.Rows L2 Fx Od
section
variable {P : Program} {w : World} {K : PySem.W.Frag} {h : Heap} {mg : Str → Option Value}
theorem txt_of (X : K.In h) (G : h.Ns mainGlobals mg) (d : He.SaysD hfa hfn K) (hex : hex_ K = true) : Txt K mg (He.ga K "Watch") := by
  exact ⟨He.free_ok X G (d.fact 49 (f := .free "abs") rfl),
    He.free_ok X G (d.fact 50 (f := .free "all") rfl),
    He.free_ok X G (d.fact 51 (f := .free "bool") rfl),
    He.free_ok X G (d.fact 52 (f := .free "enumerate") rfl),
    He.free_ok X G (d.fact 53 (f := .free "int") rfl),
    He.free_ok X G (d.fact 54 (f := .free "isinstance") rfl),
    He.free_ok X G (d.fact 55 (f := .free "len") rfl),
    He.free_ok X G (d.fact 56 (f := .free "list") rfl),
    He.free_ok X G (d.fact 57 (f := .free "max") rfl),
    He.free_ok X G (d.fact 58 (f := .free "min") rfl),
    He.free_ok X G (d.fact 60 (f := .free "range") rfl),
    He.free_ok X G (d.fact 61 (f := .free "sorted") rfl),
    He.free_ok X G (d.fact 62 (f := .free "sum") rfl),
    He.free_ok X G (d.fact 64 (f := .free "tuple") rfl),
    (by obtain ⟨t, e⟩ := He.int_ok X G (d.fact 65 (f := .int "MOST_EVENTS" 300) rfl); exact ⟨_, e, t, rfl⟩),
    (by obtain ⟨t, e⟩ := He.int_ok X G (d.fact 66 (f := .int "MOST_KINDS" 4) rfl); exact ⟨_, e, t, rfl⟩),
    (by obtain ⟨t, e⟩ := He.int_ok X G (d.fact 67 (f := .int "MOST_WORD" 3) rfl); exact ⟨_, e, t, rfl⟩),
    (by obtain ⟨t, e⟩ := He.int_ok X G (d.fact 68 (f := .int "MOST_PLACES" 6) rfl); exact ⟨_, e, t, rfl⟩),
    (by obtain ⟨t, e⟩ := He.int_ok X G (d.fact 69 (f := .int "MOST_PRICE" 1000000) rfl); exact ⟨_, e, t, rfl⟩),
    (by obtain ⟨t, e⟩ := He.int_ok X G (d.fact 70 (f := .int "MOST_LENGTH" 40) rfl); exact ⟨_, e, t, rfl⟩),
    ⟨_, He.glo_ok X G (d.fact 47 (f := .glo "Watch") rfl), rfl⟩,
    He.cls_ok (d.fact 71 (f := .cls "Watch") rfl),
    He.noat_ok (d.fact 73 (f := .noat "Watch" "own_moves") rfl),
    He.noat_ok (d.fact 74 (f := .noat "Watch" "own_words") rfl),
    insB_ok (He.cls_ok (d.fact 71 (f := .cls "Watch") rfl)) hex⟩
theorem df_is_number (X : K.In h) (G : h.Ns mainGlobals mg) (d : He.SaysD hfa hfn K) : Df K mg "is_number" s_is_number [] := by
  obtain ⟨fd, F⟩ := d.def_ 0 (d := hd_s_is_number) rfl
  exact ⟨_, fd, F, He.glo_ok X G (d.fact 0 (f := .glo "is_number") rfl)⟩
theorem df_is_between (X : K.In h) (G : h.Ns mainGlobals mg) (d : He.SaysD hfa hfn K) : Df K mg "is_between" s_is_between [] := by
  obtain ⟨fd, F⟩ := d.def_ 1 (d := hd_s_is_between) rfl
  exact ⟨_, fd, F, He.glo_ok X G (d.fact 1 (f := .glo "is_between") rfl)⟩
theorem df_is_list (X : K.In h) (G : h.Ns mainGlobals mg) (d : He.SaysD hfa hfn K) : Df K mg "is_list" s_is_list [] := by
  obtain ⟨fd, F⟩ := d.def_ 2 (d := hd_s_is_list) rfl
  exact ⟨_, fd, F, He.glo_ok X G (d.fact 2 (f := .glo "is_list") rfl)⟩
theorem df_first_wrong (X : K.In h) (G : h.Ns mainGlobals mg) (d : He.SaysD hfa hfn K) : Df K mg "first_wrong" s_first_wrong [] := by
  obtain ⟨fd, F⟩ := d.def_ 3 (d := hd_s_first_wrong) rfl
  exact ⟨_, fd, F, He.glo_ok X G (d.fact 3 (f := .glo "first_wrong") rfl)⟩
theorem df_is_word (X : K.In h) (G : h.Ns mainGlobals mg) (d : He.SaysD hfa hfn K) : Df K mg "is_word" s_is_word [] := by
  obtain ⟨fd, F⟩ := d.def_ 4 (d := hd_s_is_word) rfl
  exact ⟨_, fd, F, He.glo_ok X G (d.fact 4 (f := .glo "is_word") rfl)⟩
theorem df_is_line (X : K.In h) (G : h.Ns mainGlobals mg) (d : He.SaysD hfa hfn K) : Df K mg "is_line" s_is_line [] := by
  obtain ⟨fd, F⟩ := d.def_ 5 (d := hd_s_is_line) rfl
  exact ⟨_, fd, F, He.glo_ok X G (d.fact 5 (f := .glo "is_line") rfl)⟩
theorem df_need_words (X : K.In h) (G : h.Ns mainGlobals mg) (d : He.SaysD hfa hfn K) : Df K mg "need_words" s_need_words [] := by
  obtain ⟨fd, F⟩ := d.def_ 7 (d := hd_s_need_words) rfl
  exact ⟨_, fd, F, He.glo_ok X G (d.fact 7 (f := .glo "need_words") rfl)⟩
theorem df_need_shown (X : K.In h) (G : h.Ns mainGlobals mg) (d : He.SaysD hfa hfn K) : Df K mg "need_shown" s_need_shown [] := by
  obtain ⟨fd, F⟩ := d.def_ 11 (d := hd_s_need_shown) rfl
  exact ⟨_, fd, F, He.glo_ok X G (d.fact 9 (f := .glo "need_shown") rfl)⟩
theorem df_need_weights (X : K.In h) (G : h.Ns mainGlobals mg) (d : He.SaysD hfa hfn K) : Df K mg "need_weights" s_need_weights [] := by
  obtain ⟨fd, F⟩ := d.def_ 12 (d := hd_s_need_weights) rfl
  exact ⟨_, fd, F, He.glo_ok X G (d.fact 10 (f := .glo "need_weights") rfl)⟩
theorem df_divisor (X : K.In h) (G : h.Ns mainGlobals mg) (d : He.SaysD hfa hfn K) : Df K mg "divisor" s_divisor [] := by
  obtain ⟨fd, F⟩ := d.def_ 13 (d := hd_s_divisor) rfl
  exact ⟨_, fd, F, He.glo_ok X G (d.fact 11 (f := .glo "divisor") rfl)⟩
theorem df_power (X : K.In h) (G : h.Ns mainGlobals mg) (d : He.SaysD hfa hfn K) : Df K mg "power" s_power [] := by
  obtain ⟨fd, F⟩ := d.def_ 14 (d := hd_s_power) rfl
  exact ⟨_, fd, F, He.glo_ok X G (d.fact 12 (f := .glo "power") rfl)⟩
theorem df_fraction_of (X : K.In h) (G : h.Ns mainGlobals mg) (d : He.SaysD hfa hfn K) : Df K mg "fraction_of" s_fraction_of [] := by
  obtain ⟨fd, F⟩ := d.def_ 15 (d := hd_s_fraction_of) rfl
  exact ⟨_, fd, F, He.glo_ok X G (d.fact 13 (f := .glo "fraction_of") rfl)⟩
theorem df_heavier_by (X : K.In h) (G : h.Ns mainGlobals mg) (d : He.SaysD hfa hfn K) : Df K mg "heavier_by" s_heavier_by [] := by
  obtain ⟨fd, F⟩ := d.def_ 16 (d := hd_s_heavier_by) rfl
  exact ⟨_, fd, F, He.glo_ok X G (d.fact 14 (f := .glo "heavier_by") rfl)⟩
theorem df_numbers_by (X : K.In h) (G : h.Ns mainGlobals mg) (d : He.SaysD hfa hfn K) : Df K mg "numbers_by" s_numbers_by [] := by
  obtain ⟨fd, F⟩ := d.def_ 17 (d := hd_s_numbers_by) rfl
  exact ⟨_, fd, F, He.glo_ok X G (d.fact 15 (f := .glo "numbers_by") rfl)⟩
theorem df_words_by (X : K.In h) (G : h.Ns mainGlobals mg) (d : He.SaysD hfa hfn K) : Df K mg "words_by" s_words_by [] := by
  obtain ⟨fd, F⟩ := d.def_ 18 (d := hd_s_words_by) rfl
  exact ⟨_, fd, F, He.glo_ok X G (d.fact 16 (f := .glo "words_by") rfl)⟩
theorem df_odds_by (X : K.In h) (G : h.Ns mainGlobals mg) (d : He.SaysD hfa hfn K) : Df K mg "odds_by" s_odds_by [] := by
  obtain ⟨fd, F⟩ := d.def_ 19 (d := hd_s_odds_by) rfl
  exact ⟨_, fd, F, He.glo_ok X G (d.fact 17 (f := .glo "odds_by") rfl)⟩
theorem df_need_odds (X : K.In h) (G : h.Ns mainGlobals mg) (d : He.SaysD hfa hfn K) : Df K mg "need_odds" s_need_odds [] := by
  obtain ⟨fd, F⟩ := d.def_ 20 (d := hd_s_need_odds) rfl
  exact ⟨_, fd, F, He.glo_ok X G (d.fact 18 (f := .glo "need_odds") rfl)⟩
theorem df_odds (X : K.In h) (G : h.Ns mainGlobals mg) (d : He.SaysD hfa hfn K) : Df K mg "odds" s_odds [] := by
  obtain ⟨fd, F⟩ := d.def_ 21 (d := hd_s_odds) rfl
  exact ⟨_, fd, F, He.glo_ok X G (d.fact 19 (f := .glo "odds") rfl)⟩
theorem df_words_of (X : K.In h) (G : h.Ns mainGlobals mg) (d : He.SaysD hfa hfn K) : Df K mg "words_of" s_words_of [] := by
  obtain ⟨fd, F⟩ := d.def_ 22 (d := hd_s_words_of) rfl
  exact ⟨_, fd, F, He.glo_ok X G (d.fact 20 (f := .glo "words_of") rfl)⟩
theorem df_later_words (X : K.In h) (G : h.Ns mainGlobals mg) (d : He.SaysD hfa hfn K) : Df K mg "later_words" s_later_words [] := by
  obtain ⟨fd, F⟩ := d.def_ 23 (d := hd_s_later_words) rfl
  exact ⟨_, fd, F, He.glo_ok X G (d.fact 21 (f := .glo "later_words") rfl)⟩
theorem df_sure_at (X : K.In h) (G : h.Ns mainGlobals mg) (d : He.SaysD hfa hfn K) : Df K mg "sure_at" s_sure_at [] := by
  obtain ⟨fd, F⟩ := d.def_ 24 (d := hd_s_sure_at) rfl
  exact ⟨_, fd, F, He.glo_ok X G (d.fact 22 (f := .glo "sure_at") rfl)⟩
theorem df_need_timed (X : K.In h) (G : h.Ns mainGlobals mg) (d : He.SaysD hfa hfn K) : Df K mg "need_timed" s_need_timed [] := by
  obtain ⟨fd, F⟩ := d.def_ 25 (d := hd_s_need_timed) rfl
  exact ⟨_, fd, F, He.glo_ok X G (d.fact 23 (f := .glo "need_timed") rfl)⟩
theorem df_sure_times (X : K.In h) (G : h.Ns mainGlobals mg) (d : He.SaysD hfa hfn K) : Df K mg "sure_times" s_sure_times [] := by
  obtain ⟨fd, F⟩ := d.def_ 26 (d := hd_s_sure_times) rfl
  exact ⟨_, fd, F, He.glo_ok X G (d.fact 24 (f := .glo "sure_times") rfl)⟩
theorem df_mean_sure (X : K.In h) (G : h.Ns mainGlobals mg) (d : He.SaysD hfa hfn K) : Df K mg "mean_sure" s_mean_sure [] := by
  obtain ⟨fd, F⟩ := d.def_ 27 (d := hd_s_mean_sure) rfl
  exact ⟨_, fd, F, He.glo_ok X G (d.fact 25 (f := .glo "mean_sure") rfl)⟩
theorem df_greatest_of (X : K.In h) (G : h.Ns mainGlobals mg) (d : He.SaysD hfa hfn K) : Df K mg "greatest_of" s_greatest_of [] := by
  obtain ⟨fd, F⟩ := d.def_ 28 (d := hd_s_greatest_of) rfl
  exact ⟨_, fd, F, He.glo_ok X G (d.fact 26 (f := .glo "greatest_of") rfl)⟩
theorem df_best_guess (X : K.In h) (G : h.Ns mainGlobals mg) (d : He.SaysD hfa hfn K) : Df K mg "best_guess" s_best_guess [] := by
  obtain ⟨fd, F⟩ := d.def_ 29 (d := hd_s_best_guess) rfl
  exact ⟨_, fd, F, He.glo_ok X G (d.fact 27 (f := .glo "best_guess") rfl)⟩
theorem df_with_item (X : K.In h) (G : h.Ns mainGlobals mg) (d : He.SaysD hfa hfn K) : Df K mg "with_item" s_with_item [] := by
  obtain ⟨fd, F⟩ := d.def_ 30 (d := hd_s_with_item) rfl
  exact ⟨_, fd, F, He.glo_ok X G (d.fact 28 (f := .glo "with_item") rfl)⟩
theorem df_guessed_by (X : K.In h) (G : h.Ns mainGlobals mg) (d : He.SaysD hfa hfn K) : Df K mg "guessed_by" s_guessed_by [] := by
  obtain ⟨fd, F⟩ := d.def_ 31 (d := hd_s_guessed_by) rfl
  exact ⟨_, fd, F, He.glo_ok X G (d.fact 29 (f := .glo "guessed_by") rfl)⟩
theorem df_is_above (X : K.In h) (G : h.Ns mainGlobals mg) (d : He.SaysD hfa hfn K) : Df K mg "is_above" s_is_above [] := by
  obtain ⟨fd, F⟩ := d.def_ 32 (d := hd_s_is_above) rfl
  exact ⟨_, fd, F, He.glo_ok X G (d.fact 30 (f := .glo "is_above") rfl)⟩
theorem df_most_telling (X : K.In h) (G : h.Ns mainGlobals mg) (d : He.SaysD hfa hfn K) : Df K mg "most_telling" s_most_telling [] := by
  obtain ⟨fd, F⟩ := d.def_ 33 (d := hd_s_most_telling) rfl
  exact ⟨_, fd, F, He.glo_ok X G (d.fact 31 (f := .glo "most_telling") rfl)⟩
theorem df_law_begun (X : K.In h) (G : h.Ns mainGlobals mg) (d : He.SaysD hfa hfn K) : Df K mg "_law_begun" s_law_begun [] := by
  obtain ⟨fd, F⟩ := d.def_ 34 (d := hd_s_law_begun) rfl
  exact ⟨_, fd, F, He.glo_ok X G (d.fact 32 (f := .glo "_law_begun") rfl)⟩
theorem df_law_blend (X : K.In h) (G : h.Ns mainGlobals mg) (d : He.SaysD hfa hfn K) : Df K mg "_law_blend" s_law_blend [] := by
  obtain ⟨fd, F⟩ := d.def_ 35 (d := hd_s_law_blend) rfl
  exact ⟨_, fd, F, He.glo_ok X G (d.fact 33 (f := .glo "_law_blend") rfl)⟩
theorem df_law_draw (X : K.In h) (G : h.Ns mainGlobals mg) (d : He.SaysD hfa hfn K) : Df K mg "_law_draw" s_law_draw [] := by
  obtain ⟨fd, F⟩ := d.def_ 36 (d := hd_s_law_draw) rfl
  exact ⟨_, fd, F, He.glo_ok X G (d.fact 34 (f := .glo "_law_draw") rfl)⟩
theorem df_law_pick (X : K.In h) (G : h.Ns mainGlobals mg) (d : He.SaysD hfa hfn K) : Df K mg "_law_pick" s_law_pick [] := by
  obtain ⟨fd, F⟩ := d.def_ 37 (d := hd_s_law_pick) rfl
  exact ⟨_, fd, F, He.glo_ok X G (d.fact 35 (f := .glo "_law_pick") rfl)⟩
theorem df_law_watch (X : K.In h) (G : h.Ns mainGlobals mg) (d : He.SaysD hfa hfn K) : Df K mg "_law_watch" s_law_watch [] := by
  obtain ⟨fd, F⟩ := d.def_ 38 (d := hd_s_law_watch) rfl
  exact ⟨_, fd, F, He.glo_ok X G (d.fact 36 (f := .glo "_law_watch") rfl)⟩
theorem df_law_made (X : K.In h) (G : h.Ns mainGlobals mg) (d : He.SaysD hfa hfn K) : Df K mg "_law_made" s_law_made [] := by
  obtain ⟨fd, F⟩ := d.def_ 39 (d := hd_s_law_made) rfl
  exact ⟨_, fd, F, He.glo_ok X G (d.fact 37 (f := .glo "_law_made") rfl)⟩
theorem df_law_row (X : K.In h) (G : h.Ns mainGlobals mg) (d : He.SaysD hfa hfn K) : Df K mg "_law_row" s_law_row [] := by
  obtain ⟨fd, F⟩ := d.def_ 40 (d := hd_s_law_row) rfl
  exact ⟨_, fd, F, He.glo_ok X G (d.fact 38 (f := .glo "_law_row") rfl)⟩
theorem df_law_weights (X : K.In h) (G : h.Ns mainGlobals mg) (d : He.SaysD hfa hfn K) : Df K mg "_law_weights" s_law_weights [] := by
  obtain ⟨fd, F⟩ := d.def_ 41 (d := hd_s_law_weights) rfl
  exact ⟨_, fd, F, He.glo_ok X G (d.fact 39 (f := .glo "_law_weights") rfl)⟩
theorem df_law_common (X : K.In h) (G : h.Ns mainGlobals mg) (d : He.SaysD hfa hfn K) : Df K mg "_law_common" s_law_common [] := by
  obtain ⟨fd, F⟩ := d.def_ 42 (d := hd_s_law_common) rfl
  exact ⟨_, fd, F, He.glo_ok X G (d.fact 40 (f := .glo "_law_common") rfl)⟩
theorem df_law_fraction (X : K.In h) (G : h.Ns mainGlobals mg) (d : He.SaysD hfa hfn K) : Df K mg "_law_fraction" s_law_fraction [] := by
  obtain ⟨fd, F⟩ := d.def_ 43 (d := hd_s_law_fraction) rfl
  exact ⟨_, fd, F, He.glo_ok X G (d.fact 41 (f := .glo "_law_fraction") rfl)⟩
theorem df_law_numbers (X : K.In h) (G : h.Ns mainGlobals mg) (d : He.SaysD hfa hfn K) : Df K mg "_law_numbers" s_law_numbers [] := by
  obtain ⟨fd, F⟩ := d.def_ 44 (d := hd_s_law_numbers) rfl
  exact ⟨_, fd, F, He.glo_ok X G (d.fact 42 (f := .glo "_law_numbers") rfl)⟩
theorem df_law_shown_row (X : K.In h) (G : h.Ns mainGlobals mg) (d : He.SaysD hfa hfn K) : Df K mg "_law_shown_row" s_law_shown_row [] := by
  obtain ⟨fd, F⟩ := d.def_ 45 (d := hd_s_law_shown_row) rfl
  exact ⟨_, fd, F, He.glo_ok X G (d.fact 43 (f := .glo "_law_shown_row") rfl)⟩
theorem df_law_sum (X : K.In h) (G : h.Ns mainGlobals mg) (d : He.SaysD hfa hfn K) : Df K mg "_law_sum" s_law_sum [] := by
  obtain ⟨fd, F⟩ := d.def_ 46 (d := hd_s_law_sum) rfl
  exact ⟨_, fd, F, He.glo_ok X G (d.fact 44 (f := .glo "_law_sum") rfl)⟩
theorem df_law_begun_at (X : K.In h) (G : h.Ns mainGlobals mg) (d : He.SaysD hfa hfn K) : Df K mg "_law_begun_at" s_law_begun_at [] := by
  obtain ⟨fd, F⟩ := d.def_ 47 (d := hd_s_law_begun_at) rfl
  exact ⟨_, fd, F, He.glo_ok X G (d.fact 45 (f := .glo "_law_begun_at") rfl)⟩
theorem df_law (X : K.In h) (G : h.Ns mainGlobals mg) (d : He.SaysD hfa hfn K) : Df K mg "law" s_law [] := by
  obtain ⟨fd, F⟩ := d.def_ 48 (d := hd_s_law) rfl
  exact ⟨_, fd, F, He.glo_ok X G (d.fact 46 (f := .glo "law") rfl)⟩
theorem df_need_watch (X : K.In h) (G : h.Ns mainGlobals mg) (d : He.SaysD hfa hfn K) : Df K mg "need_watch" s_need_watch [.non] := by
  obtain ⟨fd, F⟩ := d.def_ 10 (d := hd_s_need_watch) rfl
  exact ⟨_, fd, F, He.glo_ok X G (d.fact 8 (f := .glo "need_watch") rfl)⟩
theorem dc_need_moves (X : K.In h) (G : h.Ns mainGlobals mg) (d : He.SaysD hfa hfn K) : DfC K mg "need_moves" s_need_moves (He.cT K ("need_moves", none)).1 := by
  obtain ⟨fd, F⟩ := d.def_ 6 (d := hd_s_need_moves) rfl
  have F2 := F
  obtain ⟨oc, od, dV, kV, doc, pm, an, cdv, ct, osl, rfl, lk, hcd, _, _⟩ := F2.ex
  obtain ⟨c, rfl⟩ := He.codeIn_ref hcd
  have e : He.codeOf K ("need_moves", none) = c := He.codeOf_eq lk rfl
  exact ⟨_, _, F, by show Value.ref c = .ref (He.codeOf K ("need_moves", none)); rw [e], He.glo_ok X G (d.fact 6 (f := .glo "need_moves") rfl)⟩
theorem di_Watch (X : K.In h) (G : h.Ns mainGlobals mg) (d : He.SaysD hfa hfn K) : DfI K mg (He.ga K "Watch") "Watch" "Watch.__init__" s_Watch_init := by
  obtain ⟨fd, F⟩ := d.def_ 8 (d := hd_s_Watch_init) rfl
  exact ⟨_, fd, F, He.mkr_ok (d.fact 72 (f := .mkr "Watch") rfl), He.glo_ok X G (d.fact 47 (f := .glo "Watch") rfl)⟩
theorem dg_moves {w : World} (c : SaysP hfa hfn htf hgt hex_ w h K) : Dg K (He.ga K "Watch") "moves" "Watch.moves" s_Watch_moves := by
  have g := c.g gd_moves (by unfold hgt; simp)
  obtain ⟨fd, F⟩ := g.ex
  exact ⟨_, _, fd, F, g.prop⟩
theorem dg_words {w : World} (c : SaysP hfa hfn htf hgt hex_ w h K) : Dg K (He.ga K "Watch") "words" "Watch.words" s_Watch_words := by
  have g := c.g gd_words (by unfold hgt; simp)
  obtain ⟨fd, F⟩ := g.ex
  exact ⟨_, _, fd, F, g.prop⟩
theorem dg_kinds {w : World} (c : SaysP hfa hfn htf hgt hex_ w h K) : Dg K (He.ga K "Watch") "kinds" "Watch.kinds" s_Watch_kinds := by
  have g := c.g gd_kinds (by unfold hgt; simp)
  obtain ⟨fd, F⟩ := g.ex
  exact ⟨_, _, fd, F, g.prop⟩
end
theorem facts {w : World} {K : PySem.W.Frag} {h : Heap} {mg : Str → Option Value} {fa : Addr} (X : K.In h) (G : h.Ns mainGlobals mg) (hmg : mg ("law" : Str) = some (.ref fa)) (c : SaysP hfa hfn htf hgt hex_ w h K) :
    LamX.LawAtS PySem.Challenge.rw_whytold_k62_whole_odds_piece_by_piece w K C8.CX0 10 63 "script" mg fa h := by
  have d := c.x.t.d
  have T := txt_of X G d c.x.more
  obtain ⟨Z, hZ⟩ : ∃ Z : List (Addr × Str), Z = [((He.cT K ("need_moves", none)).2, lamQ)] := ⟨_, rfl⟩
  have hm : (("need_moves", none) : He.Defn) ∈ htf := by unfold htf; simp
  obtain ⟨fl, fdl, Fl, hml⟩ := (df_law X G d).ex
  have efa : fl = fa := by
    rw [hmg] at hml
    exact (Value.ref.inj (Option.some.inj hml)).symm
  subst efa
  refine ⟨fdl, [He.cT K ("need_moves", none)], spLaw K Z, fun p hp => ?_, fun p hp => ?_, fun p hp => ?_, fun s u => ?_, fun H a ns hl hb hT hS => ?_, fun base hK hN hTB => ?_⟩
  · rw [List.mem_singleton.mp hp]
    exact c.x.empty _ hm
  · rw [List.mem_singleton.mp hp]
    exact c.x.out _ hm
  · rw [List.mem_singleton.mp hp]
    exact PySem.W.codeHd_of_K X (c.x.hd _ hm)
  · exact Fl.bindsA (ps := ["script"]) (by intro kV doc pm an cdv ct us h; match us, h with | [_], _ => rfl) s [u] rfl
  · refine ⟨a, ns, rfl, hS, hl, fun p hp => ?_, fun H' => rfl⟩
    rw [hZ] at hp
    rw [List.mem_singleton.mp hp]
    exact ⟨#[], hT _ (List.mem_singleton_self _), trivial, fun pos cv hc => by cases hc⟩
  · have TB := hTB _ (List.mem_singleton_self _)
    have c_is_number := is_number_ok (P := (PySem.Challenge.rw_whytold_k62_whole_odds_piece_by_piece).prog) (w := w) (base := base) T (df_is_number X G d)
    have c_is_between := is_between_ok T (df_is_between X G d) c_is_number
    have c_is_list := is_list_ok (P := (PySem.Challenge.rw_whytold_k62_whole_odds_piece_by_piece).prog) (w := w) (base := base) (Z := Z) T (df_is_list X G d)
    have c_is_word := is_word_ok T (df_is_word X G d) c_is_between
    have c_is_line := is_line_ok T (df_is_line X G d) c_is_list c_is_between
    have c_need_words := need_words_ok T (df_need_words X G d) (df_first_wrong X G d) c_is_list c_is_word
    have c_need_moves := need_moves_ok T (dc_need_moves X G d) (df_first_wrong X G d) TB hZ c_is_list c_is_line
    have c_Watch := Watch_ok T (di_Watch X G d) c_need_moves c_need_words
    have p_moves := Watch_moves_ok (P := (PySem.Challenge.rw_whytold_k62_whole_odds_piece_by_piece).prog) (w := w) (base := base) T (dg_moves c)
    have p_words := Watch_words_ok (P := (PySem.Challenge.rw_whytold_k62_whole_odds_piece_by_piece).prog) (w := w) (base := base) T (dg_words c)
    have p_kinds := Watch_kinds_ok (P := (PySem.Challenge.rw_whytold_k62_whole_odds_piece_by_piece).prog) (w := w) (base := base) T (dg_kinds c)
    have c_need_watch := need_watch_ok (P := (PySem.Challenge.rw_whytold_k62_whole_odds_piece_by_piece).prog) (w := w) (base := base) T (df_need_watch X G d)
    have c_need_shown := need_shown_ok T (df_need_shown X G d) p_kinds c_is_list c_is_between
    have c_need_weights := need_weights_ok T (df_need_weights X G d) p_kinds c_is_list c_is_between
    have c_divisor := divisor_ok (P := (PySem.Challenge.rw_whytold_k62_whole_odds_piece_by_piece).prog) (w := w) (base := base) (df_divisor X G d)
    have c_power := power_ok (P := (PySem.Challenge.rw_whytold_k62_whole_odds_piece_by_piece).prog) (w := w) (base := base) T (df_power X G d)
    have c_fraction_of := fraction_of_ok (Z := Z) (df_fraction_of X G d) c_divisor
    have c_heavier_by := heavier_ok (Z := Z) T (df_heavier_by X G d) p_kinds p_moves
    have c_numbers_by := numbers_ok T (df_numbers_by X G d) c_heavier_by c_power
    have c_words_by := words_by_ok T (df_words_by X G d) p_words c_numbers_by
    have c_odds_by := odds_by_ok T (df_odds_by X G d) c_words_by c_fraction_of
    have c_need_odds := need_odds_ok (df_need_odds X G d) c_need_watch c_need_shown c_need_weights
    have c_odds := odds_ok (df_odds X G d) c_need_odds c_odds_by
    have c_words_of := words_of_ok (P := (PySem.Challenge.rw_whytold_k62_whole_odds_piece_by_piece).prog) (w := w) (base := base) (Z := Z) (df_words_of X G d)
    have c_later_words := later_ok T (df_later_words X G d) p_words p_moves c_words_of
    have c_sure_at := sure_at_ok T (df_sure_at X G d) p_moves c_later_words c_power
    have c_need_timed := need_timed_ok T (df_need_timed X G d) c_need_watch c_need_weights c_is_between
    have c_sure_times := sure_times_ok T (df_sure_times X G d) c_need_timed c_sure_at c_fraction_of
    have c_mean_sure := mean_sure_ok T (df_mean_sure X G d) c_need_timed c_sure_at c_fraction_of
    have c_greatest_of := greatest_ok (P := (PySem.Challenge.rw_whytold_k62_whole_odds_piece_by_piece).prog) (w := w) (base := base) (Z := Z) T (df_greatest_of X G d)
    have c_best_guess := best_ok T (df_best_guess X G d) c_need_odds c_words_by c_greatest_of c_fraction_of
    have c_with_item := with_item_ok (P := (PySem.Challenge.rw_whytold_k62_whole_odds_piece_by_piece).prog) (w := w) (base := base) (Z := Z) T (df_with_item X G d)
    have c_guessed_by := guessed_ok T (df_guessed_by X G d) c_words_by c_with_item c_greatest_of c_fraction_of
    have c_is_above := above_ok (P := (PySem.Challenge.rw_whytold_k62_whole_odds_piece_by_piece).prog) (w := w) (base := base) T (df_is_above X G d)
    have c_most_telling := telling_ok T (df_most_telling X G d) c_need_odds c_guessed_by c_is_above
    have c_law_blend := blend_ok (P := (PySem.Challenge.rw_whytold_k62_whole_odds_piece_by_piece).prog) (w := w) (base := base) (Z := Z) T (df_law_blend X G d)
    have c_law_draw := draw_ok T (df_law_draw X G d) c_law_blend
    have c_law_pick := pick_ok T (df_law_pick X G d) c_law_draw
    have c_law_watch := lwatch_ok T (df_law_watch X G d) c_law_draw
    have c_law_made := made_ok T (df_law_made X G d) c_Watch
    have c_law_row := row_ok T (df_law_row X G d) c_law_draw
    have c_law_shown_row := shown_ok T (df_law_shown_row X G d) c_law_draw c_law_row
    have c_law_weights := lweights_ok T (df_law_weights X G d) c_law_draw c_law_pick
    have c_law_begun := begun_ok (P := (PySem.Challenge.rw_whytold_k62_whole_odds_piece_by_piece).prog) (w := w) (base := base) (Z := Z) T (df_law_begun X G d)
    have c_law_common := common_ok (P := (PySem.Challenge.rw_whytold_k62_whole_odds_piece_by_piece).prog) (w := w) (base := base) T (df_law_common X G d)
    have c_law_fraction := lfraction_ok (Z := Z) (df_law_fraction X G d) c_law_common
    have c_law_sum := lsum_ok T (df_law_sum X G d) c_law_fraction
    have c_law_numbers := lnumbers_ok (P := (PySem.Challenge.rw_whytold_k62_whole_odds_piece_by_piece).prog) (w := w) (base := base) (Z := Z) T (df_law_numbers X G d)
    have c_law_begun_at := begun_at_ok T (df_law_begun_at X G d) c_Watch
    have c_law := law_ok T Fl c_law_begun c_law_draw c_law_watch c_law_made c_law_weights c_law_shown_row c_law_numbers c_law_begun_at c_law_sum c_odds c_sure_times c_most_telling c_mean_sure c_best_guess c_Watch
    exact c_law
end K62
open PySem PySem.W PySem.Calls PyProof.Rows
theorem PySem.Challenge.cw_whytold_k62_whole_odds_piece_by_piece_holds : PySem.Challenge.rw_whytold_k62_whole_odds_piece_by_piece.Holds := by
  w_on; o_law
  refine HandSHeadRun.head_any (r := OpenLaw.row PySem.Challenge.rw_whytold_k62_whole_odds_piece_by_piece) (q := view (OpenLaw.row PySem.Challenge.rw_whytold_k62_whole_odds_piece_by_piece).prog [72]) (H := K62.hk) (ob := K62.ob) (M := 9000) (loose := K62.hnm) (d := HandSHeadRun.topDef (OpenLaw.row PySem.Challenge.rw_whytold_k62_whole_odds_piece_by_piece).prog 72) (kwd := []) K62.ob_eq
    (by kernel_rfl) (fun s => by kernel_rfl) K62.run (by kernel_rfl) (by kernel_rfl) (by kernel_rfl) (by rfl) (by first | assumption | decide +kernel) (by decide +kernel) ⟨rfl, rfl, rfl, rfl, rfl, by decide +kernel⟩ ?hw ?hc
  case hw => w_witness2
  case hc =>
    refine LamX.walk_ofTsE (l := PySem.Challenge.rw_whytold_k62_whole_odds_piece_by_piece) (n := 63) (k := 10) (x := "script") (CX := fun _ => C8.CX0) rfl (by decide) (by kernel_rfl) ⟨rfl, by decide, by decide⟩ ?F (fun _ _ _ _ _ z => z)
    intro w mg fa h Y G hmg0
    obtain ⟨K, KX, c⟩ := Y
    have hmg : mg ("law" : PySem.Str) = some (.ref fa) := by
      have e : (HandSHeadRun.topDef (OpenLaw.row PySem.Challenge.rw_whytold_k62_whole_odds_piece_by_piece).prog 72).name = ("law" : PySem.Str) := by kernel_rfl
      rw [← e]
      exact hmg0
    exact ⟨K, KX, K62.facts KX G hmg c⟩
