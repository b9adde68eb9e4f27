import PyProof.Rows.All
import PySem.Str
import Wide.All
import OpenK.AllK
import Wide.FinOn
import HandS.ForMost
import HandS.ClsMeth
import HandS.Property
import HandS.Defaults
import HandS.IsInst
import HandS.Conv
import HandS.NoneIn
import HandS.TupAny
import HandS.Walk
import KE.KUnpackStar
import KE.KOpsOwn
import PySem.Challenge.RW_framejoins_k46_whole_clips_are_their_sam
/-! part M1 -/
set_option Elab.async false
namespace K46
open PySem
abbrev Gs := List (Int × Int)
inductive Pc where
  | part (nm : Str) (s e : Int) (g : Gs)
  | sil (n : Int)
  | sam (xs : List Int) (g : Gs)
  | rep (n : Int) (ps : List Pc)
mutual
def plen : Pc → Int
  | .part _ s e _ => e - s
  | .sil n => n
  | .sam xs _ => xs.length
  | .rep n ps => n * tlen ps
def tlen : List Pc → Int
  | [] => 0
  | p :: ps => plen p + tlen ps
end
theorem tlen_sum : ∀ ps : List Pc, (ps.map plen).sum = tlen ps
  | [] => by simp [tlen]
  | p :: ps => by simp [tlen, tlen_sum ps]
mutual
def pcn : Pc → Int
  | .part .. => 1
  | .sil _ => 1
  | .sam .. => 1
  | .rep _ ps => 1 + pcnt ps
def pcnt : List Pc → Int
  | [] => 0
  | p :: ps => pcn p + pcnt ps
end
mutual
def dep : Pc → Nat
  | .part .. => 0
  | .sil _ => 0
  | .sam .. => 0
  | .rep _ ps => deps ps + 1
def deps : List Pc → Nat
  | [] => 0
  | p :: ps => max (dep p) (deps ps)
end
def merged : Pc → Pc → Option Pc
  | .sil a, .sil b => some (.sil (a + b))
  | .part n s e g, .part n' s' e' g' => if n = n' ∧ e = s' ∧ g = g' then some (.part n s e' g) else none
  | _, _ => none
def both (a b : List Pc) : List Pc :=
  match a.getLast?, b with
  | some x, y :: r => match merged x y with
    | some z => a.dropLast ++ z :: r
    | none => a ++ b
  | _, _ => a ++ b
def repd (ps : List Pc) (c : Int) : List Pc :=
  if c = 0 then [] else if c = 1 then ps else
  match ps with
  | [] => []
  | [.sil n] => [.sil (n * c)]
  | [.rep n qs] => [.rep (n * c) qs]
  | ps => [.rep c ps]
mutual
def cutGo : List Pc → Int → List Pc → Int → Int → List Pc
  | [], _, found, _, _ => found
  | p :: ps, place, found, a, b =>
    cutGo ps (place + plen p) (if (if 0 > a - place then 0 else a - place) < (if plen p < b - place then plen p else b - place)
      then both found (cutP p (if 0 > a - place then 0 else a - place) (if plen p < b - place then plen p else b - place)) else found) a b
def cutP : Pc → Int → Int → List Pc
  | .part nm s e g, f, l => if f = l then [] else [.part nm (s + f) (s + l) g]
  | .sil _, f, l => if f = l then [] else [.sil (l - f)]
  | .sam xs g, f, l => if f = l then [] else [.sam ((xs.drop f.toNat).take (l.toNat - f.toNat)) g]
  | .rep n ps, f, l => if f = l then [] else
    if f / tlen ps = l / tlen ps then cutGo ps 0 [] (f - f / tlen ps * tlen ps) (l - f / tlen ps * tlen ps) else
    if f > f / tlen ps * tlen ps then
      both (both (cutGo ps 0 [] (f - f / tlen ps * tlen ps) (tlen ps)) (repd ps (l / tlen ps - (f / tlen ps + 1)))) (cutGo ps 0 [] 0 (l - l / tlen ps * tlen ps))
    else both (both [] (repd ps (l / tlen ps - f / tlen ps))) (cutGo ps 0 [] 0 (l - l / tlen ps * tlen ps))
end
mutual
def gainP (x : Int × Int) : Pc → Pc
  | .part nm s e g => .part nm s e (g ++ [x])
  | .sil n => .sil n
  | .sam xs g => .sam xs (g ++ [x])
  | .rep n ps => .rep n (gainPs x ps)
def gainPs (x : Int × Int) : List Pc → List Pc
  | [] => []
  | p :: ps => gainP x p :: gainPs x ps
end
def g1 (v : Int) (x : Int × Int) : Int := (2 * v * x.1 + x.2) / (2 * x.2)
def gainS (v : Int) (g : Gs) : Int := g.foldl g1 v
def addN (l : List Str) (s : Str) : List Str := if s ∈ l then l else l ++ [s]
mutual
def nameP : Pc → List Str → List Str
  | .part nm _ _ _, l => addN l nm
  | .sil _, l => l
  | .sam _ _, l => l
  | .rep _ ps, l => (namesGo ps []).foldl addN l
def namesGo : List Pc → List Str → List Str
  | [], l => l
  | p :: ps, l => namesGo ps (nameP p l)
end
abbrev Snd := Str → List Int
mutual
def samP (S : Snd) : Pc → Int → Int
  | .part nm s _ g, i => gainS ((S nm).getD (s + i).toNat 0) g
  | .sil _, _ => 0
  | .sam xs g, i => gainS (xs.getD i.toNat 0) g
  | .rep _ ps, i => samGo S ps (i % tlen ps)
def samGo (S : Snd) : List Pc → Int → Int
  | [], _ => 0
  | p :: ps, i => if i < plen p then samP S p i else samGo S ps (i - plen p)
end
/-! the list of samples that pieces are -/
mutual
def sem (S : Snd) : Pc → List Int
  | .part nm s e g => (((S nm).drop s.toNat).take (e - s).toNat).map fun v => gainS v g
  | .sil n => List.replicate n.toNat 0
  | .sam xs g => xs.map fun v => gainS v g
  | .rep n ps => (List.replicate n.toNat (sems S ps)).flatten
def sems (S : Snd) : List Pc → List Int
  | [] => []
  | p :: ps => sem S p ++ sems S ps
end
end K46
/-! part M2 -/
set_option Elab.async false
set_option linter.all false
namespace K46
open PySem
def gok (m : Nat) (g : Gs) : Prop := g.length ≤ m ∧ ∀ x ∈ g, (-4 ≤ x.1 ∧ x.1 ≤ 4) ∧ 1 ≤ x.2 ∧ x.2 ≤ 4
abbrev sA : Str := ("a" : Str)
abbrev sB : Str := ("b" : Str)
mutual
def wf (S : Snd) (m : Nat) : Pc → Prop
  | .part nm s e g => (nm = sA ∨ nm = sB) ∧ 0 ≤ s ∧ s < e ∧ e ≤ ((S nm).length : Int) ∧ gok m g
  | .sil n => 0 < n
  | .sam xs g => xs ≠ [] ∧ gok m g
  | .rep n ps => 2 ≤ n ∧ ps ≠ [] ∧ wfs S m ps
def wfs (S : Snd) (m : Nat) : List Pc → Prop
  | [] => True
  | p :: ps => wf S m p ∧ wfs S m ps
end
variable {S : Snd} {m : Nat}
theorem len_flat {α : Type} (s : List α) (n : Nat) : (List.replicate n s).flatten.length = n * s.length := by
  simp [List.length_flatten]
mutual
theorem plen_sem : ∀ p : Pc, wf S m p → plen p = ((sem S p).length : Int) ∧ 0 < plen p
  | .part nm s e g, h => by
    obtain ⟨_, h1, h2, h3, _⟩ := h
    simp only [plen, sem, List.length_map, List.length_take, List.length_drop]
    omega
  | .sil n, h => by
    simp only [wf] at h
    simp only [plen, sem, List.length_replicate]
    omega
  | .sam xs g, h => by
    have q := List.length_pos_iff.mpr h.1
    simp only [plen, sem, List.length_map]
    exact ⟨trivial, by omega⟩
  | .rep n ps, h => by
    obtain ⟨h1, h2, h3⟩ := h
    have q := tlen_sems ps h3
    have q2 := tlen_pos ps h3 h2
    simp only [plen, sem, len_flat]
    rw [q] at q2 ⊢
    have e : ((n.toNat : Nat) : Int) = n := by omega
    rw [Int.natCast_mul, e]
    exact ⟨rfl, Int.mul_pos (by omega) q2⟩
theorem tlen_sems : ∀ ps : List Pc, wfs S m ps → tlen ps = ((sems S ps).length : Int)
  | [], _ => by simp [tlen, sems]
  | p :: ps, h => by
    have a := plen_sem p h.1
    have b := tlen_sems ps h.2
    simp only [tlen, sems, List.length_append]
    omega
theorem tlen_pos : ∀ ps : List Pc, wfs S m ps → ps ≠ [] → 0 < tlen ps
  | [], _, n => absurd rfl n
  | p :: ps, h, _ => by
    have a := plen_sem p h.1
    have b := tlen_sems ps h.2
    simp only [tlen]
    omega
end
theorem tlen_nn (ps : List Pc) (h : wfs S m ps) : 0 ≤ tlen ps := by
  rw [tlen_sems ps h]; omega
/-! append -/
theorem sems_app (a b : List Pc) : sems S (a ++ b) = sems S a ++ sems S b := by
  induction a with
  | nil => simp [sems]
  | cons p a ih => simp [sems, ih]
theorem tlen_app (a b : List Pc) : tlen (a ++ b) = tlen a + tlen b := by
  induction a with
  | nil => simp [tlen]
  | cons p a ih => simp [tlen, ih]; omega
theorem wfs_app (a b : List Pc) : wfs S m (a ++ b) ↔ wfs S m a ∧ wfs S m b := by
  induction a with
  | nil => simp [wfs]
  | cons p a ih => simp [wfs, ih, and_assoc]
theorem pcnt_app (a b : List Pc) : pcnt (a ++ b) = pcnt a + pcnt b := by
  induction a with
  | nil => simp [pcnt]
  | cons p a ih => simp [pcnt, ih]; omega
theorem deps_app (a b : List Pc) : deps (a ++ b) = max (deps a) (deps b) := by
  induction a with
  | nil => simp [deps]
  | cons p a ih => simp [deps, ih]
/-! merged, both -/
theorem drop_take_two {α : Type} (l : List α) {s e f : Nat} (h1 : s ≤ e) (h2 : e ≤ f) :
    (l.drop s).take (e - s) ++ (l.drop e).take (f - e) = (l.drop s).take (f - s) := by
  have e1 : l.drop e = (l.drop s).drop (e - s) := by rw [List.drop_drop]; congr 1; omega
  have e2 : f - s = (e - s) + (f - e) := by omega
  rw [e1, e2, List.take_add]
theorem merged_ok {x y z : Pc} (h : merged x y = some z) (hx : wf S m x) (hy : wf S m y) :
    wf S m z ∧ sem S z = sem S x ++ sem S y ∧ dep z = 0 ∧ dep x = 0 ∧ dep y = 0 ∧ pcn z = 1 ∧ pcn x = 1 ∧ pcn y = 1 := by
  cases x <;> cases y <;> simp only [merged] at h <;> try cases h
  · rename_i n s e g n' s' e' g'
    split at h
    · rename_i c
      obtain ⟨rfl, rfl, rfl⟩ := c
      cases h
      obtain ⟨a1, a2, a3, a4, a5⟩ := hx
      obtain ⟨b1, b2, b3, b4, b5⟩ := hy
      refine ⟨⟨a1, a2, by omega, b4, a5⟩, ?_, by simp [dep], by simp [dep], by simp [dep], by simp [pcn], by simp [pcn], by simp [pcn]⟩
      simp only [sem]
      rw [← List.map_append]
      congr 1
      have q1 : (e - s).toNat = e.toNat - s.toNat := by omega
      have q2 : (e' - e).toNat = e'.toNat - e.toNat := by omega
      have q3 : (e' - s).toNat = e'.toNat - s.toNat := by omega
      rw [q1, q2, q3]
      exact (drop_take_two _ (by omega) (by omega)).symm
    · cases h
  · rename_i a b
    simp only [wf] at hx hy
    refine ⟨by simp only [wf]; omega, ?_, by simp [dep], by simp [dep], by simp [dep], by simp [pcn], by simp [pcn], by simp [pcn]⟩
    simp only [sem]
    have q : (a + b).toNat = a.toNat + b.toNat := by omega
    rw [q, List.replicate_append_replicate]
theorem both_nil_l (b : List Pc) : both [] b = b := by simp [both]
theorem both_nil_r (a : List Pc) : both a [] = a := by unfold both; split <;> simp_all
/-- how both turns out -/
theorem both_cases (a b : List Pc) : both a b = a ++ b ∨ ∃ a' x y r z, a = a' ++ [x] ∧ b = y :: r ∧ merged x y = some z ∧ both a b = a' ++ z :: r := by
  unfold both
  split
  · rename_i x y r h
    split
    · rename_i z hz
      right
      obtain ⟨ne, e⟩ := List.getLast?_eq_some_iff.mp h
      refine ⟨ne, x, y, r, z, e, rfl, hz, ?_⟩
      rw [e]; simp
    · left; rfl
  · left; rfl
theorem both_ok {a b : List Pc} (ha : wfs S m a) (hb : wfs S m b) :
    wfs S m (both a b) ∧ sems S (both a b) = sems S a ++ sems S b ∧ deps (both a b) ≤ max (deps a) (deps b) ∧ pcnt (both a b) ≤ pcnt a + pcnt b := by
  rcases both_cases a b with e | ⟨a', x, y, r, z, ea, eb, hm, e⟩
  · rw [e]
    exact ⟨(wfs_app _ _).mpr ⟨ha, hb⟩, sems_app _ _, by rw [deps_app]; omega, by rw [pcnt_app]; omega⟩
  · rw [e]
    subst ea eb
    obtain ⟨w1, w2⟩ := (wfs_app _ _).mp ha
    obtain ⟨m1, m2, m3, m4, m5, m6, m7, m8⟩ := merged_ok hm w2.1 hb.1
    refine ⟨(wfs_app _ _).mpr ⟨w1, m1, hb.2⟩, ?_, ?_, ?_⟩
    · rw [sems_app, sems_app]; simp [sems, m2]
    · rw [deps_app, deps_app]; simp only [deps]; omega
    · rw [pcnt_app, pcnt_app]; simp only [pcnt]; omega
/-! repeats -/
theorem flat_one {α : Type} (s : List α) : (List.replicate 1 s).flatten = s := by simp
theorem flat_mul {α : Type} (s : List α) (m n : Nat) : (List.replicate n (List.replicate m s).flatten).flatten = (List.replicate (m * n) s).flatten := by
  induction n with
  | zero => simp
  | succ n ih => rw [List.replicate_succ, List.flatten_cons, ih, Nat.mul_succ, Nat.add_comm, ← List.replicate_append_replicate, List.flatten_append]
theorem flat_zero {m n : Nat} : (List.replicate n (List.replicate m (0 : Int))).flatten = List.replicate (m * n) 0 := by
  simp [List.flatten_replicate_replicate, Nat.mul_comm]
theorem pcnt_pos : ∀ ps : List Pc, wfs S m ps → 0 ≤ pcnt ps ∧ pcnt ps ≤ 2 * tlen ps := by
  intro ps
  refine Pc.rec_1 (motive_1 := fun p => wf S m p → 0 ≤ pcn p ∧ pcn p ≤ 2 * plen p) (motive_2 := fun ps => wfs S m ps → 0 ≤ pcnt ps ∧ pcnt ps ≤ 2 * tlen ps) ?_ ?_ ?_ ?_ ?_ ?_ ps
  · intro nm s e g h; have := plen_sem _ h; simp only [pcn]; omega
  · intro n h; have := plen_sem _ h; simp only [pcn]; omega
  · intro xs g h; have := plen_sem _ h; simp only [pcn]; omega
  · intro n ps ih h
    obtain ⟨h1, h2, h3⟩ := h
    have q := ih h3
    have q2 := tlen_pos ps h3 h2
    simp only [pcn, plen]
    have : 2 * tlen ps ≤ n * tlen ps := Int.mul_le_mul_of_nonneg_right h1 (by omega)
    omega
  · intro _; simp [pcnt, tlen]
  · intro p ps h1 h2 h
    have a := h1 h.1
    have b := h2 h.2
    simp only [pcnt, tlen]; omega
theorem repd_ok {ps : List Pc} {c : Int} (h : wfs S m ps) (hc : 0 ≤ c) :
    wfs S m (repd ps c) ∧ sems S (repd ps c) = (List.replicate c.toNat (sems S ps)).flatten ∧ deps (repd ps c) ≤ deps ps + 1 ∧ pcnt (repd ps c) ≤ pcnt ps + 1 ∧ (deps ps = 0 → deps (repd ps c) ≤ 1) := by
  have pp := pcnt_pos ps h
  unfold repd
  split
  · rename_i e; subst e; simp only [wfs, sems, deps, pcnt]; simp; omega
  · split
    · rename_i e; subst e
      refine ⟨h, ?_, by omega, by omega, by omega⟩
      show _ = (List.replicate 1 (sems S ps)).flatten
      simp
    · rename_i n0 n1
      split
      · simp [wfs, sems, deps, pcnt]
      · rename_i n
        simp only [wfs, wf, and_true] at h
        refine ⟨⟨by simp only [wf]; exact Int.mul_pos h (by omega), trivial⟩, ?_, by simp [deps, dep], by simp [pcnt, pcn], by simp [deps, dep]⟩
        simp only [sems, sem, List.append_nil]
        rw [flat_zero]
        congr 1
        exact Int.toNat_mul (by omega) (by omega)
      · rename_i n qs
        obtain ⟨⟨h1, h2, h3⟩, _⟩ := h
        refine ⟨⟨⟨?_, h2, h3⟩, trivial⟩, ?_, by simp only [deps, dep]; omega, by simp only [pcnt, pcn]; omega, by simp [deps, dep]⟩
        · have : n * 1 ≤ n * c := Int.mul_le_mul_of_nonneg_left (by omega) (by omega)
          omega
        · simp only [sems, sem, List.append_nil]
          rw [flat_mul]
          congr 2
          exact Int.toNat_mul (by omega) (by omega)
      · rename_i x1 x2 x3
        refine ⟨⟨⟨by omega, x1, h⟩, trivial⟩, by simp [sems, sem], by simp [deps, dep], by simp [pcnt, pcn]; omega, ?_⟩
        intro z; simp [deps, dep, z]
end K46
/-! part M3 -/
set_option Elab.async false
set_option linter.all false
namespace K46
open PySem
variable {S : Snd} {m : Nat}
/-! stretches of a list repeated -/
section
variable {α : Type} (s : List α)
abbrev fl (n : Nat) : List α := (List.replicate n s).flatten
theorem fl_add (m n : Nat) : fl s (m + n) = fl s m ++ fl s n := by
  rw [fl, ← List.replicate_append_replicate, List.flatten_append]
theorem fl_succ (n : Nat) : fl s (n + 1) = s ++ fl s n := by
  rw [Nat.add_comm, fl_add]; simp [fl]
theorem fl_len (n : Nat) : (fl s n).length = n * s.length := len_flat s n
theorem take_fl {n q r : Nat} (hr : r ≤ s.length) (h : q < n ∨ (q = n ∧ r = 0)) : (fl s n).take (q * s.length + r) = fl s q ++ s.take r := by
  rcases h with h | ⟨rfl, rfl⟩
  · have e : n = q + ((n - q - 1) + 1) := by omega
    rw [e, fl_add, fl_succ, ← fl_len, List.take_length_add_append, List.take_append_of_le_length hr]
  · have e : (fl s q).length = q * s.length + 0 := fl_len s q
    rw [← e, List.take_length]; simp
theorem drop_fl_lt {q p r : Nat} {t : List α} (hr : r ≤ s.length) (h : p < q) : (fl s q ++ t).drop (p * s.length + r) = s.drop r ++ fl s (q - p - 1) ++ t := by
  have e : q = p + ((q - p - 1) + 1) := by omega
  conv => lhs; rw [e]
  rw [fl_add, fl_succ, ← fl_len, List.append_assoc, List.drop_length_add_append, List.append_assoc, List.drop_append_of_le_length hr, List.append_assoc]
theorem drop_fl_eq {q r : Nat} {t : List α} : (fl s q ++ t).drop (q * s.length + r) = t.drop r := by
  rw [← fl_len, List.drop_length_add_append]
end
/-- a stretch over a list's head and rest -/
theorem cut_cons {α : Type} (x y : List α) (j k : Nat) (h : j ≤ k) :
    ((x ++ y).take k).drop j = (x.take k).drop j ++ (y.take (k - x.length)).drop (j - x.length) := by
  rw [List.take_append, List.drop_append, List.length_take]
  by_cases c : k ≤ x.length
  · have e1 : k - x.length = 0 := by omega
    rw [e1]; simp
  · have e1 : min k x.length = x.length := by omega
    rw [e1]
/-- a stretch of a repeat, by places -/
theorem rep_cut (s : List Int) (n f l N : Int) (hN : N = (s.length : Int)) (h0 : 0 < N) (hf : 0 ≤ f) (hfl : f < l) (hl : l ≤ n * N) :
    ((fl s n.toNat).take l.toNat).drop f.toNat =
      if f / N = l / N then (s.take (l % N).toNat).drop (f % N).toNat
      else s.drop (f % N).toNat ++ fl s (l / N - f / N - 1).toNat ++ s.take (l % N).toNat := by
  have l0 : 0 ≤ l := by omega
  have f1 := Int.emod_nonneg f (b := N) (by omega)
  have f2 := Int.emod_lt_of_pos f h0
  have l1 := Int.emod_nonneg l (b := N) (by omega)
  have l2 := Int.emod_lt_of_pos l h0
  have fe := Int.mul_ediv_add_emod f N
  have le := Int.mul_ediv_add_emod l N
  have fq : 0 ≤ f / N := Int.ediv_nonneg hf (by omega)
  have lq : 0 ≤ l / N := Int.ediv_nonneg l0 (by omega)
  have qq : f / N ≤ l / N := Int.ediv_le_ediv h0 (by omega)
  have nq : l / N < n ∨ (l / N = n ∧ l % N = 0) := by
    have a : l / N ≤ n := by
      have := Int.ediv_le_ediv h0 hl
      rwa [Int.mul_ediv_cancel _ (by omega)] at this
    rcases Int.lt_or_eq_of_le a with a | a
    · exact .inl a
    · refine .inr ⟨a, ?_⟩
      rw [a, Int.mul_comm] at le
      omega
  generalize f / N = Q1 at *
  generalize l / N = Q2 at *
  generalize f % N = R1 at *
  generalize l % N = R2 at *
  obtain ⟨q1, rfl⟩ := Int.eq_ofNat_of_zero_le fq
  obtain ⟨q2, rfl⟩ := Int.eq_ofNat_of_zero_le lq
  obtain ⟨r1, rfl⟩ := Int.eq_ofNat_of_zero_le f1
  obtain ⟨r2, rfl⟩ := Int.eq_ofNat_of_zero_le l1
  have ef : f.toNat = q1 * s.length + r1 := by
    rw [hN] at fe
    rw [← fe, ← Int.natCast_mul, ← Int.natCast_add, Int.toNat_natCast, Nat.mul_comm]
  have el : l.toNat = q2 * s.length + r2 := by
    rw [hN] at le
    rw [← le, ← Int.natCast_mul, ← Int.natCast_add, Int.toNat_natCast, Nat.mul_comm]
  rw [ef, el, take_fl s (by omega) (by omega)]
  split
  · rename_i c
    have c' : q1 = q2 := by omega
    subst c'
    rw [drop_fl_eq]
    simp
  · rename_i c
    rw [drop_fl_lt s (by omega) (by omega)]
    have e3 : ((q2 : Int) - (q1 : Int) - 1).toNat = q2 - q1 - 1 := by omega
    rw [e3]; simp
theorem sub_div (f N : Int) : f - f / N * N = f % N := by
  have := Int.mul_ediv_add_emod f N
  rw [Int.mul_comm] at this; omega
abbrev CutOk (S : Snd) (m : Nat) (r : List Pc) (xs : List Int) (d : Nat) : Prop := wfs S m r ∧ sems S r = xs ∧ deps r ≤ d
mutual
theorem cutP_ok : ∀ (p : Pc) (f l : Int), wf S m p → 0 ≤ f → f ≤ l → l ≤ plen p → CutOk S m (cutP p f l) (((sem S p).take l.toNat).drop f.toNat) (dep p)
  | .part nm s e g, f, l, h, h0, h1, h2 => by
    obtain ⟨a1, a2, a3, a4, a5⟩ := h
    simp only [plen] at h2
    simp only [cutP]
    split
    · rename_i c; subst c; simp [CutOk, wfs, sems, deps, List.drop_take]
    · refine ⟨⟨⟨a1, by omega, by omega, by omega, a5⟩, trivial⟩, ?_, by simp [deps, dep]⟩
      simp only [sems, sem, List.append_nil, ← List.map_take, ← List.map_drop]
      congr 1
      rw [List.take_take, List.drop_take, List.drop_drop]
      congr 2 <;> omega
  | .sil n, f, l, h, h0, h1, h2 => by
    simp only [plen] at h2
    simp only [cutP]
    split
    · rename_i c; subst c; simp [CutOk, wfs, sems, deps, List.drop_take]
    · refine ⟨⟨by simp only [wf]; omega, trivial⟩, ?_, by simp [deps, dep]⟩
      simp only [sems, sem, List.append_nil, List.take_replicate, List.drop_replicate]
      congr 1; omega
  | .sam xs g, f, l, h, h0, h1, h2 => by
    simp only [plen] at h2
    simp only [cutP]
    split
    · rename_i c; subst c; simp [CutOk, wfs, sems, deps, List.drop_take]
    · refine ⟨⟨⟨?_, h.2⟩, trivial⟩, ?_, by simp [deps, dep]⟩
      · intro e
        have e2 := congrArg List.length e
        simp only [List.length_take, List.length_drop, List.length_nil] at e2
        omega
      · simp only [sems, sem, List.append_nil, ← List.map_take, ← List.map_drop]
        rw [List.drop_take]
  | .rep n ps, f, l, h, h0, h1, h2 => by
    obtain ⟨w1, w2, w3⟩ := h
    have hp := tlen_pos ps w3 w2
    have ht := tlen_sems ps w3
    simp only [plen] at h2
    simp only [cutP]
    split
    · rename_i c; subst c; simp [CutOk, wfs, sems, deps, List.drop_take]
    · rename_i c
      have hlt : f < l := by omega
      have mm := rep_cut (sems S ps) n f l (tlen ps) ht hp h0 hlt h2
      have f1 := Int.emod_nonneg f (b := tlen ps) (by omega)
      have f2 := Int.emod_lt_of_pos f hp
      have l1 := Int.emod_nonneg l (b := tlen ps) (by omega)
      have l2 := Int.emod_lt_of_pos l hp
      have qq : f / tlen ps ≤ l / tlen ps := Int.ediv_le_ediv hp (by omega)
      have es := sub_div f (tlen ps)
      have el := sub_div l (tlen ps)
      have all : ∀ x : Int, (sems S ps).take (tlen ps - 0).toNat = sems S ps := fun _ => by
        rw [ht]; simp
      have k1 := cutGo_ok ps 0 [] (f % tlen ps) (l % tlen ps) w3 trivial
      have k2 := cutGo_ok ps 0 [] (f % tlen ps) (tlen ps) w3 trivial (by omega)
      have k3 := cutGo_ok ps 0 [] 0 (l % tlen ps) w3 trivial (by omega)
      split
      · rename_i c2
        have e3 : l - f / tlen ps * tlen ps = l % tlen ps := by rw [c2]; exact el
        rw [es, e3]
        have hle : f % tlen ps ≤ l % tlen ps := by omega
        obtain ⟨z1, z2, z3⟩ := k1 hle
        rw [if_pos c2] at mm
        refine ⟨z1, ?_, by simp only [dep]; simp only [deps] at z3; omega⟩
        rw [z2]
        show _ = ((fl (sems S ps) n.toNat).take l.toNat).drop f.toNat
        rw [mm]; simp [sems]
      · rename_i c2
        rw [if_neg c2] at mm
        obtain ⟨z1, z2, z3⟩ := k3
        rw [el]
        split
        · rename_i c3
          rw [es]
          obtain ⟨y1, y2, y3⟩ := k2
          have R := repd_ok (c := l / tlen ps - (f / tlen ps + 1)) w3 (by omega)
          have B1 := both_ok y1 R.1
          have B2 := both_ok B1.1 z1
          refine ⟨B2.1, ?_, ?_⟩
          · rw [B2.2.1, B1.2.1, R.2.1, y2, z2]
            show _ = ((fl (sems S ps) n.toNat).take l.toNat).drop f.toNat
            rw [mm, all 0]
            have e5 : l / tlen ps - (f / tlen ps + 1) = l / tlen ps - f / tlen ps - 1 := by omega
            rw [e5]
            simp [sems]
          · have := B2.2.2.1
            have := B1.2.2.1
            simp only [deps] at z3 y3
            simp only [dep]
            omega
        · rename_i c3
          have f0 : f % tlen ps = 0 := by omega
          have R := repd_ok (c := l / tlen ps - f / tlen ps) w3 (by omega)
          have B1 := both_ok (a := []) (S := S) (m := m) trivial R.1
          have B2 := both_ok B1.1 z1
          refine ⟨B2.1, ?_, ?_⟩
          · rw [B2.2.1, B1.2.1, R.2.1, z2]
            show _ = ((fl (sems S ps) n.toNat).take l.toNat).drop f.toNat
            rw [mm, f0]
            have e5 : (l / tlen ps - f / tlen ps).toNat = (l / tlen ps - f / tlen ps - 1).toNat + 1 := by omega
            rw [e5]
            show sems S [] ++ fl (sems S ps) _ ++ _ = _
            rw [fl_succ]
            simp [sems]
          · have := B2.2.2.1
            have := B1.2.2.1
            simp only [deps] at z3 this
            simp only [dep]
            omega
theorem cutGo_ok : ∀ (ps : List Pc) (place : Int) (found : List Pc) (a b : Int), wfs S m ps → wfs S m found → a ≤ b →
    CutOk S m (cutGo ps place found a b) (sems S found ++ ((sems S ps).take (b - place).toNat).drop (a - place).toNat) (max (deps found) (deps ps))
  | [], place, found, a, b, h, hf, hab => by
    simp only [cutGo]; exact ⟨hf, by simp [sems], by omega⟩
  | p :: ps, place, found, a, b, h, hf, hab => by
    simp only [cutGo]
    have P := plen_sem p h.1
    have tail := fun (fd : List Pc) (w : wfs S m fd) => cutGo_ok ps (place + plen p) fd a b h.2 w hab
    have e1 : (b - (place + plen p)).toNat = (b - place).toNat - (sem S p).length := by omega
    have e2 : (a - (place + plen p)).toNat = (a - place).toNat - (sem S p).length := by omega
    have cc : ((sems S (p :: ps)).take (b - place).toNat).drop (a - place).toNat = _ := cut_cons (sem S p) (sems S ps) (a - place).toNat (b - place).toNat (by omega)
    generalize hF : (if 0 > a - place then 0 else a - place) = F
    generalize hL : (if plen p < b - place then plen p else b - place) = L
    have F0 : F = ((a - place).toNat : Int) := by rw [← hF]; split <;> omega
    have L0 : 0 ≤ L → L = min (b - place) (plen p) := by intro _; rw [← hL]; split <;> omega
    have LP : L ≤ plen p := by rw [← hL]; split <;> omega
    split
    · rename_i c
      obtain ⟨c1, c2, c3⟩ := cutP_ok p F L h.1 (by omega) (by omega) LP
      have B := both_ok hf c1
      obtain ⟨t1, t2, t3⟩ := tail _ B.1
      refine ⟨t1, ?_, ?_⟩
      · rw [t2, B.2.1, c2, cc, e1, e2]
        have e4 : (sem S p).take L.toNat = (sem S p).take (b - place).toNat := by
          have := L0 (by omega)
          by_cases c5 : b - place ≤ plen p
          · congr 1; omega
          · rw [List.take_of_length_le (by omega), List.take_of_length_le (by omega)]
        rw [e4, F0, Int.toNat_natCast, List.append_assoc]
      · have := B.2.2.1
        simp only [deps]
        omega
    · rename_i c
      obtain ⟨t1, t2, t3⟩ := tail _ hf
      refine ⟨t1, ?_, by simp only [deps]; omega⟩
      rw [t2, cc, e1, e2]
      have e4 : ((sem S p).take (b - place).toNat).drop (a - place).toNat = [] := by
        rw [List.drop_eq_nil_iff, List.length_take]
        by_cases c6 : 0 ≤ L
        · have := L0 c6; omega
        · have : b - place < 0 := by rw [← hL] at c6; split at c6 <;> omega
          omega
      rw [e4]
      simp
end
end K46
/-! part M4 -/
set_option Elab.async false
set_option linter.all false
namespace K46
open PySem
variable {S : Snd} {m : Nat}
/-! gains -/
theorem gainS_snoc (v : Int) (g : Gs) (x : Int × Int) : gainS v (g ++ [x]) = g1 (gainS v g) x := by
  simp [gainS, List.foldl_append]
theorem g1_zero {x : Int × Int} (h : 1 ≤ x.2) : g1 0 x = 0 := by
  unfold g1
  simp only [Int.mul_zero, Int.zero_mul, Int.zero_add]
  exact Int.ediv_eq_zero_of_lt (by omega) (by omega)
theorem gok_snoc {g : Gs} {x : Int × Int} (h : gok m g) (hx : (-4 ≤ x.1 ∧ x.1 ≤ 4) ∧ 1 ≤ x.2 ∧ x.2 ≤ 4) : gok (m + 1) (g ++ [x]) := by
  refine ⟨by have := h.1; simp; omega, fun y hy => ?_⟩
  rcases List.mem_append.mp hy with q | q
  · exact h.2 y q
  · rw [List.mem_singleton.mp q]; exact hx
theorem gain_all (x : Int × Int) (hx : (-4 ≤ x.1 ∧ x.1 ≤ 4) ∧ 1 ≤ x.2 ∧ x.2 ≤ 4) (ps : List Pc) :
    wfs S m ps → wfs S (m + 1) (gainPs x ps) ∧ sems S (gainPs x ps) = (sems S ps).map (fun v => g1 v x) ∧ tlen (gainPs x ps) = tlen ps ∧ deps (gainPs x ps) = deps ps ∧ pcnt (gainPs x ps) = pcnt ps ∧ (gainPs x ps = [] → ps = []) := by
  refine Pc.rec_1 (motive_1 := fun p => wf S m p → wf S (m + 1) (gainP x p) ∧ sem S (gainP x p) = (sem S p).map (fun v => g1 v x) ∧ plen (gainP x p) = plen p ∧ dep (gainP x p) = dep p ∧ pcn (gainP x p) = pcn p)
    (motive_2 := fun ps => wfs S m ps → wfs S (m + 1) (gainPs x ps) ∧ sems S (gainPs x ps) = (sems S ps).map (fun v => g1 v x) ∧ tlen (gainPs x ps) = tlen ps ∧ deps (gainPs x ps) = deps ps ∧ pcnt (gainPs x ps) = pcnt ps ∧ (gainPs x ps = [] → ps = [])) ?_ ?_ ?_ ?_ ?_ ?_ ps
  · intro nm s e g ⟨a1, a2, a3, a4, a5⟩
    refine ⟨⟨a1, a2, a3, a4, gok_snoc a5 hx⟩, ?_, rfl, rfl, rfl⟩
    simp only [gainP, sem, List.map_map]
    congr 1; funext v; exact gainS_snoc v g x
  · intro n h
    refine ⟨h, ?_, rfl, rfl, rfl⟩
    simp only [gainP, sem, List.map_replicate, g1_zero hx.2.1]
  · intro xs g h
    refine ⟨⟨h.1, gok_snoc h.2 hx⟩, ?_, rfl, rfl, rfl⟩
    simp only [gainP, sem, List.map_map]
    congr 1; funext v; exact gainS_snoc v g x
  · intro n ps ih ⟨h1, h2, h3⟩
    obtain ⟨i1, i2, i3, i4, i5, i6⟩ := ih h3
    refine ⟨⟨h1, fun e => h2 (i6 e), i1⟩, ?_, by simp only [gainP, plen, i3], by simp only [gainP, dep, i4], by simp only [gainP, pcn, i5]⟩
    simp only [gainP, sem, i2, List.map_flatten, List.map_replicate]
  · intro _; simp [gainPs, wfs, sems, tlen, deps, pcnt]
  · intro p ps h1 h2 h
    obtain ⟨a1, a2, a3, a4, a5⟩ := h1 h.1
    obtain ⟨b1, b2, b3, b4, b5, _⟩ := h2 h.2
    refine ⟨⟨a1, b1⟩, ?_, by simp only [gainPs, tlen, a3, b3], by simp only [gainPs, deps, a4, b4], by simp only [gainPs, pcnt, a5, b5], by simp [gainPs]⟩
    simp only [gainPs, sems, a2, b2, List.map_append]
theorem gok_mono {k : Nat} {g : Gs} (h : gok m g) (hk : m ≤ k) : gok k g := ⟨by have := h.1; omega, h.2⟩
theorem wfs_mono {k : Nat} (hk : m ≤ k) (ps : List Pc) : wfs S m ps → wfs S k ps := by
  refine Pc.rec_1 (motive_1 := fun p => wf S m p → wf S k p) (motive_2 := fun ps => wfs S m ps → wfs S k ps) ?_ ?_ ?_ ?_ ?_ ?_ ps
  · intro nm s e g ⟨a1, a2, a3, a4, a5⟩; exact ⟨a1, a2, a3, a4, gok_mono a5 hk⟩
  · intro n h; exact h
  · intro xs g h; exact ⟨h.1, gok_mono h.2 hk⟩
  · intro n ps ih ⟨h1, h2, h3⟩; exact ⟨h1, h2, ih h3⟩
  · intro _; trivial
  · intro p ps h1 h2 h; exact ⟨h1 h.1, h2 h.2⟩
/-! one sample -/
theorem fl_get (s : List Int) : ∀ (n i : Nat), i < n * s.length → (fl s n).getD i 0 = s.getD (i % s.length) 0
  | 0, i, h => by omega
  | n + 1, i, h => by
    rw [fl_succ]
    by_cases c : i < s.length
    · rw [Nat.mod_eq_of_lt c, List.getD_eq_getElem?_getD, List.getD_eq_getElem?_getD, List.getElem?_append_left c]
    · have hh : (n + 1) * s.length = n * s.length + s.length := Nat.succ_mul n s.length
      have q := fl_get s n (i - s.length) (by omega)
      rw [← Nat.mod_eq_sub_mod (by omega)] at q
      rw [← q, List.getD_eq_getElem?_getD, List.getD_eq_getElem?_getD, List.getElem?_append_right (by omega)]
theorem sam_all (ps : List Pc) : wfs S m ps → ∀ i, 0 ≤ i → i < tlen ps → samGo S ps i = (sems S ps).getD i.toNat 0 := by
  refine Pc.rec_1 (motive_1 := fun p => wf S m p → ∀ i, 0 ≤ i → i < plen p → samP S p i = (sem S p).getD i.toNat 0)
    (motive_2 := fun ps => wfs S m ps → ∀ i, 0 ≤ i → i < tlen ps → samGo S ps i = (sems S ps).getD i.toNat 0) ?_ ?_ ?_ ?_ ?_ ?_ ps
  · intro nm s e g ⟨a1, a2, a3, a4, a5⟩ i h0 h1
    simp only [plen] at h1
    simp only [samP, sem, List.getD_eq_getElem?_getD, List.getElem?_map]
    rw [List.getElem?_take_of_lt (by omega), List.getElem?_drop]
    have e1 : s.toNat + i.toNat = (s + i).toNat := by omega
    have e2 : (s + i).toNat < (S nm).length := by omega
    rw [e1, List.getElem?_eq_getElem e2]; rfl
  · intro n h i h0 h1
    simp only [plen] at h1
    simp only [samP, sem, List.getD_eq_getElem?_getD]
    rw [List.getElem?_replicate]; split <;> rfl
  · intro xs g h i h0 h1
    simp only [plen] at h1
    have e2 : i.toNat < xs.length := by omega
    simp only [samP, sem, List.getD_eq_getElem?_getD, List.getElem?_map]
    rw [List.getElem?_eq_getElem e2]; rfl
  · intro n ps ih ⟨h1, h2, h3⟩ i h0 hi
    have hp := tlen_pos ps h3 h2
    have ht := tlen_sems ps h3
    simp only [plen] at hi
    simp only [samP, sem]
    rw [ih h3 _ (Int.emod_nonneg _ (by omega)) (Int.emod_lt_of_pos _ hp)]
    have e1 : i.toNat < n.toNat * (sems S ps).length := by
      have e3 : ((n.toNat * (sems S ps).length : Nat) : Int) = n * tlen ps := by
        rw [Int.natCast_mul, ht]; congr 1; omega
      omega
    rw [fl_get _ _ _ e1]
    congr 1
    obtain ⟨j, rfl⟩ := Int.eq_ofNat_of_zero_le h0
    rw [ht, ← Int.natCast_emod, Int.toNat_natCast, Int.toNat_natCast]
  · intro _ i h0 h1; simp only [tlen] at h1; omega
  · intro p ps h1 h2 h i h0 hi
    have P := plen_sem p h.1
    simp only [tlen] at hi
    simp only [samGo, sems, List.getD_eq_getElem?_getD]
    split
    · rename_i c
      rw [h1 h.1 i h0 c, List.getElem?_append_left (by omega), List.getD_eq_getElem?_getD]
    · rename_i c
      rw [h2 h.2 _ (by omega) (by omega), List.getElem?_append_right (by omega), List.getD_eq_getElem?_getD]
      congr 2; omega
/-! names -/
mutual
def lawP : Pc → List Str
  | .part nm _ _ _ => [nm]
  | .sil _ => []
  | .sam _ _ => []
  | .rep _ ps => lawNs ps
def lawNs : List Pc → List Str
  | [] => []
  | p :: ps => lawP p ++ lawNs ps
end
theorem mem_addN {l : List Str} {s x : Str} : x ∈ addN l s ↔ x ∈ l ∨ x = s := by
  unfold addN; split
  · rename_i c; constructor
    · exact .inl
    · rintro (h | rfl); exact h; exact c
  · simp
theorem nodup_addN {l : List Str} {s : Str} (h : l.Nodup) : (addN l s).Nodup := by
  unfold addN; split
  · exact h
  · rename_i c
    rw [List.nodup_append]
    exact ⟨h, by simp, fun a ha b hb => by rw [List.mem_singleton.mp hb]; rintro rfl; exact c ha⟩
theorem fold_addN : ∀ (ys l : List Str), (∀ x, x ∈ ys.foldl addN l ↔ x ∈ l ∨ x ∈ ys) ∧ (l.Nodup → (ys.foldl addN l).Nodup)
  | [], l => by simp
  | y :: ys, l => by
    have q := fold_addN ys (addN l y)
    refine ⟨fun x => ?_, fun h => q.2 (nodup_addN h)⟩
    rw [List.foldl_cons, q.1, mem_addN, List.mem_cons, or_assoc]
theorem names_all (ps : List Pc) : ∀ l, (∀ x, x ∈ namesGo ps l ↔ x ∈ l ∨ x ∈ lawNs ps) ∧ (l.Nodup → (namesGo ps l).Nodup) := by
  refine Pc.rec_1 (motive_1 := fun p => ∀ l, (∀ x, x ∈ nameP p l ↔ x ∈ l ∨ x ∈ lawP p) ∧ (l.Nodup → (nameP p l).Nodup))
    (motive_2 := fun ps => ∀ l, (∀ x, x ∈ namesGo ps l ↔ x ∈ l ∨ x ∈ lawNs ps) ∧ (l.Nodup → (namesGo ps l).Nodup)) ?_ ?_ ?_ ?_ ?_ ?_ ps
  · intro nm s e g l
    simp only [nameP, lawP]
    exact ⟨fun x => by rw [mem_addN, List.mem_singleton], nodup_addN⟩
  · intro n l; simp [nameP, lawP]
  · intro xs g l; simp [nameP, lawP]
  · intro n ps ih l
    simp only [nameP, lawP]
    have f := fold_addN (namesGo ps []) l
    refine ⟨fun x => ?_, f.2⟩
    rw [f.1, (ih []).1]; simp
  · intro l; simp [namesGo, lawNs]
  · intro p ps h1 h2 l
    simp only [namesGo, lawNs]
    refine ⟨fun x => ?_, fun h => (h2 _).2 ((h1 l).2 h)⟩
    rw [(h2 _).1, (h1 l).1, List.mem_append, or_assoc]
theorem law_ab (ps : List Pc) : wfs S m ps → ∀ x ∈ lawNs ps, x = sA ∨ x = sB := by
  refine Pc.rec_1 (motive_1 := fun p => wf S m p → ∀ x ∈ lawP p, x = sA ∨ x = sB) (motive_2 := fun ps => wfs S m ps → ∀ x ∈ lawNs ps, x = sA ∨ x = sB) ?_ ?_ ?_ ?_ ?_ ?_ ps
  · intro nm s e g h x hx
    simp only [lawP, List.mem_singleton] at hx
    rw [hx]; exact h.1
  · intro n _ x hx; simp [lawP] at hx
  · intro xs g _ x hx; simp [lawP] at hx
  · intro n ps ih h x hx; simp only [lawP] at hx; exact ih h.2.2 x hx
  · intro _ x hx; simp [lawNs] at hx
  · intro p ps h1 h2 h x hx
    simp only [lawNs, List.mem_append] at hx
    rcases hx with q | q
    · exact h1 h.1 x q
    · exact h2 h.2 x q
theorem law_len (ps : List Pc) : wfs S m ps → ((lawNs ps).length : Int) ≤ tlen ps := by
  refine Pc.rec_1 (motive_1 := fun p => wf S m p → ((lawP p).length : Int) ≤ plen p) (motive_2 := fun ps => wfs S m ps → ((lawNs ps).length : Int) ≤ tlen ps) ?_ ?_ ?_ ?_ ?_ ?_ ps
  · intro nm s e g h; have := plen_sem _ h; simp only [lawP, List.length_singleton]; omega
  · intro n h; have := plen_sem _ h; simp only [lawP, List.length_nil]; omega
  · intro xs g h; have := plen_sem _ h; simp only [lawP, List.length_nil]; omega
  · intro n ps ih h
    obtain ⟨h1, h2, h3⟩ := h
    have q := ih h3
    have q2 := tlen_pos ps h3 h2
    simp only [lawP, plen]
    have : 2 * tlen ps ≤ n * tlen ps := Int.mul_le_mul_of_nonneg_right h1 (by omega)
    omega
  · intro _; simp [lawNs, tlen]
  · intro p ps h1 h2 h
    have a := h1 h.1
    have b := h2 h.2
    simp only [lawNs, tlen, List.length_append]; omega
theorem lawNs_app (a b : List Pc) : lawNs (a ++ b) = lawNs a ++ lawNs b := by
  induction a with
  | nil => simp [lawNs]
  | cons p a ih => simp [lawNs, ih]
abbrev nl (ps : List Pc) : Nat := (lawNs ps).length
theorem merged_nl {x y z : Pc} (h : merged x y = some z) : (lawP z).length ≤ (lawP x).length := by
  cases x <;> cases y <;> simp only [merged] at h <;> try cases h
  · split at h
    · cases h; simp [lawP]
    · cases h
  · simp [lawP]
theorem both_nl (a b : List Pc) : nl (both a b) ≤ nl a + nl b := by
  rcases both_cases a b with e | ⟨a', x, y, r, z, ea, eb, hm, e⟩
  · rw [e, nl, lawNs_app, List.length_append]; simp only [nl]; omega
  · have := merged_nl hm
    rw [e, ea, eb]
    simp only [nl, lawNs_app, lawNs, List.length_append, List.append_nil]
    omega
theorem repd_nl (ps : List Pc) (c : Int) : nl (repd ps c) ≤ nl ps := by
  unfold repd
  split
  · exact Nat.zero_le _
  · split
    · exact Nat.le_refl _
    · split <;> simp [nl, lawNs, lawP]
theorem cutP_nl0 : ∀ (p : Pc) (f l : Int), dep p = 0 → nl (cutP p f l) ≤ (lawP p).length
  | .part .., f, l, h => by simp only [cutP]; split <;> simp [nl, lawNs, lawP]
  | .sil _, f, l, h => by simp only [cutP]; split <;> simp [nl, lawNs, lawP]
  | .sam .., f, l, h => by simp only [cutP]; split <;> simp [nl, lawNs, lawP]
  | .rep .., f, l, h => by simp [dep] at h
theorem cutGo_nl0 : ∀ (ps : List Pc) (place : Int) (found : List Pc) (a b : Int), deps ps = 0 → nl (cutGo ps place found a b) ≤ nl found + nl ps
  | [], place, found, a, b, h => by simp [cutGo]
  | p :: ps, place, found, a, b, h => by
    simp only [deps] at h
    simp only [cutGo]
    have t := fun fd => cutGo_nl0 ps (place + plen p) fd a b (by omega)
    generalize (if 0 > a - place then 0 else a - place) = F
    generalize (if plen p < b - place then plen p else b - place) = L
    have e : nl (p :: ps) = (lawP p).length + nl ps := by simp [nl, lawNs]
    rw [e]
    split
    · have := both_nl found (cutP p F L)
      have := cutP_nl0 p F L (by omega)
      have := t (both found (cutP p F L))
      omega
    · have := t found
      omega
theorem gain_nl (x : Int × Int) (ps : List Pc) : lawNs (gainPs x ps) = lawNs ps := by
  refine Pc.rec_1 (motive_1 := fun p => lawP (gainP x p) = lawP p) (motive_2 := fun ps => lawNs (gainPs x ps) = lawNs ps) ?_ ?_ ?_ ?_ ?_ ?_ ps
  · intros; simp [gainP, lawP]
  · intros; simp [gainP, lawP]
  · intros; simp [gainP, lawP]
  · intro n ps ih; simp [gainP, lawP, ih]
  · simp [gainPs, lawNs]
  · intro p ps h1 h2; simp [gainPs, lawNs, h1, h2]
theorem len_tlen : ∀ ps : List Pc, wfs S m ps → (ps.length : Int) ≤ tlen ps
  | [], _ => by simp [tlen]
  | p :: ps, h => by
    have a := plen_sem p h.1
    have b := len_tlen ps h.2
    simp only [tlen, List.length_cons]; omega
end K46
/-! part M5 -/
set_option Elab.async false
set_option linter.all false
namespace K46
open PySem
inductive Tr where
  | sil (n : Int)
  | sam (xs : List Int)
  | part (nm : Str) (s e : Int)
  | sum (a b : Tr)
  | times (a : Tr) (n : Int)
  | gain (a : Tr) (t b : Int)
  | cut (a : Tr) (x y : Int)
def tok (S : Snd) : Nat → Tr → Prop
  | _, .sil n => 0 ≤ n ∧ n ≤ 8
  | _, .sam xs => xs.length ≤ 5
  | _, .part nm s e => (nm = sA ∨ nm = sB) ∧ 0 ≤ s ∧ s ≤ e ∧ e ≤ ((S nm).length : Int)
  | d + 1, .sum a b => tok S d a ∧ tok S d b
  | d + 1, .times a n => tok S d a ∧ 0 ≤ n ∧ n ≤ 3
  | d + 1, .gain a t b => tok S d a ∧ (-4 ≤ t ∧ t ≤ 4) ∧ 1 ≤ b ∧ b ≤ 4
  | d + 1, .cut a x y => tok S d a ∧ (0 ≤ x ∧ x ≤ 11) ∧ 0 ≤ y ∧ y ≤ 11
  | 0, _ => False
def clo (x y L : Int) : Int := min (min x L) (min y L)
def chi (x y L : Int) : Int := max (min x L) (min y L)
def plain (S : Snd) : Tr → List Int
  | .sil n => List.replicate n.toNat 0
  | .sam xs => xs
  | .part nm s e => ((S nm).take e.toNat).drop s.toNat
  | .sum a b => plain S a ++ plain S b
  | .times a n => (List.replicate n.toNat (plain S a)).flatten
  | .gain a t b => (plain S a).map fun v => g1 v (t, b)
  | .cut a x y => ((plain S a).take (chi x y ((plain S a).length : Int)).toNat).drop (clo x y ((plain S a).length : Int)).toNat
def made : Tr → List Pc
  | .sil n => if n > 0 then [.sil n] else []
  | .sam xs => if (xs.length : Int) > 0 then [.sam xs []] else []
  | .part nm s e => if s < e then [.part nm s e []] else []
  | .sum a b => both (made a) (made b)
  | .times a n => repd (made a) n
  | .gain a t b => gainPs (t, b) (made a)
  | .cut a x y => cutGo (made a) 0 [] (clo x y (tlen (made a))) (chi x y (tlen (made a)))
def tb : Nat → Int
  | 0 => 14
  | d + 1 => 3 * tb d
theorem tb_ge : ∀ d, 14 ≤ tb d
  | 0 => by simp [tb]
  | d + 1 => by have := tb_ge d; simp only [tb]; omega
def cb : Nat → Int
  | 0 => 1
  | 1 => 22
  | d + 2 => 2 * cb (d + 1)
theorem cb_ge : ∀ d, 1 ≤ cb d ∧ (22 ≤ cb (d + 1)) ∧ 2 * cb d ≤ cb (d + 1)
  | 0 => by simp [cb]
  | 1 => by simp [cb]
  | d + 2 => by have := cb_ge (d + 1); simp only [cb] at *; omega
def nb : Nat → Nat
  | 0 => 1
  | 1 => 2
  | 2 => 11
  | d + 3 => 2 * nb (d + 2)
theorem nb_ge : ∀ d, 2 * nb d ≤ nb (d + 1) ∧ 11 ≤ nb (d + 2)
  | 0 => by simp [nb]
  | 1 => by simp [nb]
  | 2 => by simp [nb]
  | d + 3 => by have := nb_ge (d + 2); simp only [nb] at *; omega
/-- what holds of the clip that a tree makes -/
structure Good (S : Snd) (d : Nat) (t : Tr) (ps : List Pc) : Prop where
  w : wfs S d ps
  sem : sems S ps = plain S t
  dp : deps ps ≤ d
  tl : tlen ps ≤ tb d
  pc : pcnt ps ≤ cb d
  nm : nl ps ≤ nb d
  d0 : d = 0 → deps ps = 0
variable {S : Snd}
theorem gok_nil {m : Nat} : gok m [] := ⟨Nat.zero_le _, fun x h => by cases h⟩
theorem leaf_sil (d : Nat) {n : Int} (h : 0 ≤ n ∧ n ≤ 8) : Good S d (.sil n) (made (.sil n)) := by
  have a := tb_ge d
  have b := (cb_ge d).1
  simp only [made]
  split
  · exact ⟨⟨by simp only [wf]; omega, trivial⟩, by simp [sems, sem, plain], by simp [deps, dep], by simp only [tlen, plen]; omega, by simp only [pcnt, pcn]; omega, by simp [nl, lawNs, lawP], by simp [deps, dep]⟩
  · have : n = 0 := by omega
    subst this
    exact ⟨trivial, by simp [sems, plain], by simp [deps], by simp only [tlen]; omega, by simp only [pcnt]; omega, by simp [nl, lawNs], by simp [deps]⟩
theorem nb_pos : ∀ d, 1 ≤ nb d
  | 0 => by simp [nb]
  | 1 => by simp [nb]
  | d + 2 => by have := (nb_ge d).2; omega
theorem leaf_sam (d : Nat) {xs : List Int} (h : xs.length ≤ 5) : Good S d (.sam xs) (made (.sam xs)) := by
  have a := tb_ge d
  have b := (cb_ge d).1
  simp only [made]
  split
  · rename_i c
    refine ⟨⟨⟨?_, gok_nil⟩, trivial⟩, by simp [sems, sem, plain, gainS], by simp [deps, dep], by simp only [tlen, plen]; omega, by simp only [pcnt, pcn]; omega, by simp [nl, lawNs, lawP], by simp [deps, dep]⟩
    rintro rfl; simp at c
  · have : xs = [] := List.length_eq_zero_iff.mp (by omega)
    subst this
    exact ⟨trivial, by simp [sems, plain], by simp [deps], by simp only [tlen]; omega, by simp only [pcnt]; omega, by simp [nl, lawNs], by simp [deps]⟩
theorem leaf_part (hS : ∀ nm, (S nm).length ≤ 14) (d : Nat) {nm : Str} {s e : Int} (h : (nm = sA ∨ nm = sB) ∧ 0 ≤ s ∧ s ≤ e ∧ e ≤ ((S nm).length : Int)) : Good S d (.part nm s e) (made (.part nm s e)) := by
  have a := tb_ge d
  have b := (cb_ge d).1
  have n1 := nb_pos d
  have l14 := hS nm
  obtain ⟨h0, h1, h2, h3⟩ := h
  simp only [made]
  split
  · refine ⟨⟨⟨h0, h1, by omega, h3, gok_nil⟩, trivial⟩, ?_, by simp [deps, dep], by simp only [tlen, plen]; omega, by simp only [pcnt, pcn]; omega, by simp [nl, lawNs, lawP]; exact n1, by simp [deps, dep]⟩
    simp only [sems, sem, plain, gainS, List.foldl_nil, List.map_id', List.append_nil]
    rw [List.drop_take]; congr 1; omega
  · have : s = e := by omega
    subst this
    exact ⟨trivial, by simp [sems, plain, List.drop_take], by simp [deps], by simp only [tlen]; omega, by simp only [pcnt]; omega, by simp [nl, lawNs], by simp [deps]⟩
theorem ch_ok {x y L : Int} (hx : 0 ≤ x ∧ x ≤ 11) (hy : 0 ≤ y ∧ y ≤ 11) (hL : 0 ≤ L) : 0 ≤ clo x y L ∧ clo x y L ≤ chi x y L ∧ chi x y L ≤ L ∧ chi x y L ≤ 11 := by
  unfold clo chi; omega
theorem good_sum {d : Nat} {a b : Tr} (A : Good S d a (made a)) (B : Good S d b (made b)) : Good S (d + 1) (.sum a b) (made (.sum a b)) := by
  have Bk := both_ok A.w B.w
  have n := both_nl (made a) (made b)
  have c := (cb_ge d).2.2
  have t0 := tlen_nn _ B.w
  have q := (nb_ge d).1
  have tt := tlen_sems _ Bk.1
  have ta := tlen_sems _ A.w
  have tb' := tlen_sems _ B.w
  have a1 := A.tl
  have a2 := B.tl
  have a3 := A.pc
  have a4 := B.pc
  have a5 := A.nm
  have a6 := B.nm
  have a7 := A.dp
  have a8 := B.dp
  refine ⟨wfs_mono (Nat.le_succ d) _ Bk.1, ?_, ?_, ?_, ?_, ?_, by omega⟩
  · simp only [made, plain]; rw [Bk.2.1, A.sem, B.sem]
  · have := Bk.2.2.1; simp only [made]; omega
  · simp only [made]
    rw [tt, Bk.2.1, List.length_append]
    have := tb_ge d
    simp only [tb]; omega
  · have := Bk.2.2.2; simp only [made]; omega
  · simp only [made]; omega
theorem good_times {d : Nat} {a : Tr} {n : Int} (A : Good S d a (made a)) (hn : 0 ≤ n ∧ n ≤ 3) : Good S (d + 1) (.times a n) (made (.times a n)) := by
  have R := repd_ok A.w hn.1
  have q := repd_nl (made a) n
  have c := (cb_ge d)
  have t0 := tlen_nn _ A.w
  have tt := tlen_sems _ R.1
  have ta := tlen_sems _ A.w
  have n1 := (nb_ge d).1
  have a1 := A.tl
  have a3 := A.pc
  have a5 := A.nm
  have a7 := A.dp
  refine ⟨wfs_mono (Nat.le_succ d) _ R.1, ?_, ?_, ?_, ?_, ?_, by omega⟩
  · simp only [made, plain]; rw [R.2.1, A.sem]
  · have := R.2.2.1; simp only [made]; omega
  · simp only [made]
    rw [tt, R.2.1, len_flat]
    have e : ((n.toNat * (sems S (made a)).length : Nat) : Int) = n * tlen (made a) := by
      rw [Int.natCast_mul, ta]; congr 1; omega
    rw [e]
    have : n * tlen (made a) ≤ 3 * tlen (made a) := Int.mul_le_mul_of_nonneg_right hn.2 t0
    simp only [tb]; omega
  · have := R.2.2.2.1; simp only [made]; omega
  · simp only [made]; omega
theorem good_gain {d : Nat} {a : Tr} {t b : Int} (A : Good S d a (made a)) (ht : -4 ≤ t ∧ t ≤ 4) (hb : 1 ≤ b ∧ b ≤ 4) : Good S (d + 1) (.gain a t b) (made (.gain a t b)) := by
  obtain ⟨g1', g2', g3', g4', g5', g6'⟩ := gain_all (t, b) ⟨ht, hb⟩ (made a) A.w
  have c := (cb_ge d)
  have n1 := (nb_ge d).1
  have a0 := tb_ge d
  have a1 := A.tl
  have a3 := A.pc
  have a5 := A.nm
  have a7 := A.dp
  refine ⟨g1', ?_, ?_, ?_, ?_, ?_, by omega⟩
  · simp only [made, plain]; rw [g2', A.sem]
  · simp only [made]; omega
  · simp only [made, tb]; omega
  · simp only [made]; omega
  · simp only [made, nl, gain_nl] at *; omega
theorem good_cut {d : Nat} {a : Tr} {x y : Int} (A : Good S d a (made a)) (hx : 0 ≤ x ∧ x ≤ 11) (hy : 0 ≤ y ∧ y ≤ 11) : Good S (d + 1) (.cut a x y) (made (.cut a x y)) := by
  have t0 := tlen_nn _ A.w
  have ta := tlen_sems _ A.w
  obtain ⟨c1, c2, c3, c4⟩ := ch_ok hx hy t0
  obtain ⟨w, s, dd⟩ := cutGo_ok (made a) 0 [] (clo x y (tlen (made a))) (chi x y (tlen (made a))) A.w trivial c2
  have c := (cb_ge d)
  have tt := tlen_sems _ w
  have pp := pcnt_pos _ w
  have ll := law_len _ w
  have hlen : tlen (cutGo (made a) 0 [] (clo x y (tlen (made a))) (chi x y (tlen (made a)))) ≤ 11 := by
    rw [tt, s]
    simp only [sems, List.nil_append, List.length_drop, List.length_take]
    omega
  have n0 := nb_ge d
  have a0 := tb_ge d
  have a5 := A.nm
  have a7 := A.dp
  refine ⟨wfs_mono (Nat.le_succ d) _ w, ?_, ?_, ?_, ?_, ?_, by omega⟩
  · simp only [made, plain]
    rw [s, ta, A.sem]
    simp [sems]
  · simp only [made]; simp only [deps] at dd; omega
  · simp only [made, tb]; omega
  · simp only [made]; omega
  · simp only [made]
    match d, A with
    | 0, A =>
      have := cutGo_nl0 (made a) 0 [] (clo x y (tlen (made a))) (chi x y (tlen (made a))) (A.d0 rfl)
      have := A.nm
      simp only [nb, nl, lawNs, List.length_nil] at *
      omega
    | d + 1, A =>
      have q := (nb_ge d).2
      have q2 : nb (d + 1 + 1) = nb (d + 2) := rfl
      simp only [nl]
      omega
theorem made_good (hS : ∀ nm, (S nm).length ≤ 14) : ∀ (d : Nat) (t : Tr), tok S d t → Good S d t (made t)
  | d, .sil n, h => leaf_sil d (by cases d <;> exact h)
  | d, .sam xs, h => leaf_sam d (by cases d <;> exact h)
  | d, .part nm s e, h => leaf_part hS d (by cases d <;> exact h)
  | 0, .sum a b, h => by simp [tok] at h
  | d + 1, .sum a b, h => good_sum (made_good hS d a h.1) (made_good hS d b h.2)
  | 0, .times a n, h => by simp [tok] at h
  | d + 1, .times a n, h => good_times (made_good hS d a h.1) h.2
  | 0, .gain a t b, h => by simp [tok] at h
  | d + 1, .gain a t b, h => good_gain (made_good hS d a h.1) h.2.1 h.2.2
  | 0, .cut a x y, h => by simp [tok] at h
  | d + 1, .cut a x y, h => good_cut (made_good hS d a h.1) h.2.1 h.2.2
end K46
/-! part M6 -/
set_option Elab.async false
set_option linter.all false
namespace K46
open PySem
variable {S : Snd} {m : Nat}
def cF (place a : Int) : Int := if 0 > a - place then 0 else a - place
def cL (p : Pc) (place b : Int) : Int := if plen p < b - place then plen p else b - place
def cstep (found : List Pc) (p : Pc) (place a b : Int) : List Pc := if cF place a < cL p place b then both found (cutP p (cF place a) (cL p place b)) else found
theorem cutGo_snoc (p : Pc) (a b : Int) : ∀ (ps : List Pc) (place : Int) (found : List Pc), cutGo (ps ++ [p]) place found a b = cstep (cutGo ps place found a b) p (place + tlen ps) a b
  | [], place, found => by simp only [List.nil_append, cutGo, tlen, Int.add_zero, cstep, cF, cL]
  | p' :: ps, place, found => by
    simp only [List.cons_append, cutGo]
    rw [cutGo_snoc p a b ps]
    simp only [tlen, Int.add_assoc]
theorem tlen_both {a b : List Pc} (ha : wfs S m a) (hb : wfs S m b) : tlen (both a b) = tlen a + tlen b := by
  have B := both_ok ha hb
  rw [tlen_sems _ B.1, B.2.1, List.length_append, tlen_sems _ ha, tlen_sems _ hb]
  omega
theorem wfs_take : ∀ (ps : List Pc) (i : Nat), wfs S m ps → wfs S m (ps.take i)
  | [], i, h => by simp [wfs]
  | p :: ps, 0, h => by simp [wfs]
  | p :: ps, i + 1, h => ⟨h.1, wfs_take ps i h.2⟩
theorem deps_take : ∀ (ps : List Pc) (i : Nat), deps (ps.take i) ≤ deps ps
  | [], i => by simp [deps]
  | p :: ps, 0 => by simp [deps]
  | p :: ps, i + 1 => by have := deps_take ps i; simp only [List.take_succ_cons, deps]; omega
theorem tlen_take : ∀ (ps : List Pc) (i : Nat), wfs S m ps → tlen (ps.take i) ≤ tlen ps
  | [], i, h => by simp [tlen]
  | p :: ps, 0, h => by have := tlen_nn _ h; simpa [tlen] using this
  | p :: ps, i + 1, h => by have := tlen_take ps i h.2; simp only [List.take_succ_cons, tlen]; omega
theorem take_snoc (ps : List Pc) {i : Nat} {p : Pc} (h : ps[i]? = some p) : ps.take (i + 1) = ps.take i ++ [p] := by
  rw [List.take_add_one, h]; rfl
/-- what the loop has found behind i pieces -/
theorem found_ok {ps : List Pc} (i : Nat) {a b : Int} (h : wfs S m ps) (hab : a ≤ b) :
    wfs S m (cutGo (ps.take i) 0 [] a b) ∧ deps (cutGo (ps.take i) 0 [] a b) ≤ deps ps ∧ tlen (cutGo (ps.take i) 0 [] a b) ≤ tlen ps := by
  have w := wfs_take ps i h
  obtain ⟨c1, c2, c3⟩ := cutGo_ok (ps.take i) 0 [] a b w trivial hab
  refine ⟨c1, ?_, ?_⟩
  · have := deps_take ps i
    have e : deps ([] : List Pc) = 0 := by simp [deps]
    omega
  · rw [tlen_sems _ c1, c2]
    have := tlen_take ps i h
    have e := tlen_sems _ w
    simp only [sems, List.nil_append, List.length_drop, List.length_take]
    omega
theorem cutP_len {p : Pc} {f l : Int} (h : wf S m p) (h0 : 0 ≤ f) (h1 : f ≤ l) (h2 : l ≤ plen p) : wfs S m (cutP p f l) ∧ deps (cutP p f l) ≤ dep p ∧ tlen (cutP p f l) = l - f := by
  obtain ⟨c1, c2, c3⟩ := cutP_ok p f l h h0 h1 h2
  refine ⟨c1, c3, ?_⟩
  have := plen_sem p h
  rw [tlen_sems _ c1, c2, List.length_drop, List.length_take]
  omega
end K46
/-! part R1 -/
set_option Elab.async false
set_option linter.all false
set_option maxRecDepth 100000
/-! rules of my own over the hand layer: a static method's call, a star first among targets, update, own + and *, own == -/
namespace K46R
open PySem PySem.Spec PyProof.Rows L2
section
variable {X : Cx}
/-! ### C.m(..), m a staticmethod -/
structure CStat (K : PySem.W.Frag) (C : Addr) (mc : Value) (m : Str) (p g : Addr) : Prop where
  at_ : PySem.W.findCls K (.ref C) mc m = some (.get (.builtin "staticmethod.__get__") (.ref p) .none (.ref C))
  rc : ∃ rest, PySem.W.recIn K p "staticmethod" = some (.ref g :: rest)
  kp : PySem.W.keepIn K (.ref g) = true
def tStat (C : Addr) (sp : Sp) (E : XK) (ta : TE) (t : TA) : TE := fun σ H Q =>
  ta σ H fun x H1 => x = .ref C ∧ t σ H1 fun vs H2 => sp vs H2 Q E
theorem getstat_ok {pins : List (Addr × Obj)} {σ : L2.St} {H : Hp} {s : Shared} {C p g : Addr} {mc : Value} {m : Str} {A : Around} {E : Value → Shared → Prop}
    {pl : Sem Bool} {Q : Value × List Value → Shared → Prop} (I : Inv X pins σ H s) (r : ClX.CRead X.K C mc) (k : CStat X.K C mc m p g)
    (h : ∀ s', Inv X pins σ H s' → Q (.ref g, []) s') : wpAny (model X.prog X.w) A (getMethod (.ref C) m pl) Q E s := by
  obtain ⟨rest, hp⟩ := k.rc
  refine PySem.W.method_cls I.kIn r.ga ?_
  exact PySem.W.cls_bind I.kIn r.rd k.at_
    (wpAny_call (PySem.W.sm_get (s := { s with toks := s.toks + 1 }) I.kIn hp (PySem.W.handed_on rfl (h _ (I.tok _)))))
theorem pe_stat {CX : CXT} {k : Nat} {C p g : Addr} {mc : Value} {fd : FuncData} {ps : List Str} {sp : Sp} {E : XK} {o e : Expr} {es : List Expr} {m : Str} {pos apos : Pos} {ta : TE} {t : TA} {pl : Sem Bool}
    (ho : PE X o ta) (r : ClX.CRead X.K C mc) (c : CStat X.K C mc m p g) (F : FnOk X.prog X.w X.K X.mg X.base CX k g fd ps sp) (hr : Room k X.A) (hb : Binds X.K fd ps []) (hx : Passes CX X E) (ha : PA X (e :: es) t)
    (h1 : starEach (e :: es) X.env = (false, eval e X.env) :: starEach es X.env := by rfl) (h2 : (backTo pos (starEach es X.env)).any (·.1) = false := by rfl)
    (h3 : eval (.Call (.Attribute o m apos) (e :: es) [] pos) X.env =
      (do let ov ← eval o X.env
          standAt apos.atName
          let (f, first) ← holding [ov] (getMethod ov m pl)
          callWith pos f first (backTo pos (starEach (e :: es) X.env)) (backToKw pos (keywordEach [] X.env))) := by rfl) :
    PE X (.Call (.Attribute o m apos) (e :: es) [] pos) (tStat C sp E ta t) := by
  constructor
  intro pins s σ H Q I h
  refine PySem.W.methodCall_KW (pl := pl) (thn (ho.run pins s σ H _ I h) ?_) h3
  rintro u s1 ⟨x, H1, I1, rx, ex, q⟩
  subst ex
  cases rx
  refine getstat_ok I1 r c fun s2 I2 => ?_
  refine PySem.W.callWith_K (first := []) (h₀ := X.base) I2.ok.mod.kin c.kp (thn (ha.run pos pins s2 σ H1 _ I2 q) ?_) h1 h2
  rintro us s3 ⟨vs, H2, I3, rv, q2⟩
  refine ⟨I3.kIn, ?_⟩
  exact run_fn (dvs := []) F hr hb .nil hx I3 rv (by rw [List.append_nil]; exact q2)
/-! ### *a, b = a tuple -/
theorem unpack_star {M : Program} {w : World} {A : Around} {E : Value → Shared → Prop} {s : Shared} {l : Addr} {its : List Value} {v : Value} {Q : List Value → Shared → Prop}
    (hh : A.handled = none) (ht : IsTup s.heap l (its ++ [v]).toArray) (hz : its.length < sizeLine)
    (hQ : ∀ (h' : Heap) (tk : Nat), (∀ b o, s.heap.get? b = some o → h'.get? b = some o) → Q [.ref h'.objs.size, v] { s with heap := h'.push { cls := .type "list", data := .seq its.toArray }, toks := tk }) :
    wpAny (model M w) A (unpackItems (.ref l) 2 (some 0)) Q E s := by
  have lt : l < s.heap.objs.size := by
    obtain ⟨o, e, _⟩ := ht
    exact Heap.lt_size e
  have ne : l ≠ s.heap.objs.size := Nat.ne_of_lt lt
  unfold unpackItems
  refine wpAny_bind ?_
  unfold notIterableAtAll
  refine wpAny_bind (wpAny_specialOf ht.typeIs slot_tuple_iter.lookup (wpAny_pure ?_))
  refine wpAny_bind (wpAny_holding (iter_tuple ht ?_))
  refine wpAny_bind (wpAny_holding (wpAny_pure ?_))
  have ht' : IsTup (s.heap.push { cls := .type "tuple_iterator", data := .fields #[.ref l, .int 0 0] }) l (its ++ [v]).toArray := ht.push _
  have it0 : (s.heap.push { cls := .type "tuple_iterator", data := .fields #[.ref l, .int 0 0] }).IsTupleIter s.heap.objs.size l 0 := ⟨_, Heap.get?_push_size s.heap rfl, rfl, rfl⟩
  refine wpAny_bind (wpAny_holding (PySem.W.kun_collect (T := "tuple_iterator") (k := 0) (.inr (.inr (.inr rfl)))
    (Walks.tuple (A := A.in1) hh s.heap.objs.size l ne _) (fun j u st => st.1.typeIs) (Nat.zero_le _) ⟨it0, ht'⟩ ?_ ?_ ?_ ?_))
  · show s.heap.objs.size < (s.heap.push _).objs.size
    rw [Heap.push, Array.size_push]; exact Nat.lt_succ_self _
  · show l < (s.heap.push _).objs.size
    rw [Heap.push, Array.size_push]; exact Nat.lt_succ_of_lt lt
  · intro h' tk hk
    have e0 : (its ++ [v]).toArray.toList.drop 0 = its ++ [v] := by simp
    rw [e0]
    have c1 : ¬ (its ++ [v]).length < 2 - 1 - 0 := by simp
    have c2 : (its ++ [v]).take ((its ++ [v]).length - (2 - 1 - 0)) = its := by simp
    have c3 : (its ++ [v]).drop ((its ++ [v]).length - (2 - 1 - 0)) = [v] := by simp
    show wpAny _ _ (if (its ++ [v]).length < 2 - 1 - 0 then _ else _) _ _ _
    rw [if_neg c1]
    show wpAny _ _ (newList ((its ++ [v]).take ((its ++ [v]).length - (2 - 1 - 0))) >>= fun d => pure ([] ++ [d] ++ (its ++ [v]).drop ((its ++ [v]).length - (2 - 1 - 0)))) _ _ _
    rw [c2, c3]
    refine wpAny_bind (wpAny_newList (s := { s with heap := h', toks := tk }) (wpAny_pure ?_) (Nat.le_of_lt hz))
    refine hQ h' tk fun b o e => ?_
    refine hk b o (Nat.ne_of_lt (Heap.lt_size e)) ?_
    exact Heap.get?_push_of_some _ e
  · simp only [List.size_toArray, List.length_append, List.length_singleton]; omega
def gStar (K : PySem.W.Frag) (t : TGs) : TG := fun v σ H Q => ∃ a xs x, v = .ref a ∧ SqT K H a (xs ++ [x]) ∧
  ∀ D, H D = none → t [.ref D, x] σ (upd H D (.lst xs)) Q
theorem pg_star {e1 e2 : Expr} {p : Pos} {k : Nat} {pos : Pos} {t : TGs} (hc : X.calm = true) (h : PGs X [e1, e2] t)
    (h1 : assignEach [.Starred e1 p, e2] X.env = [(true, assign e1 X.env), (false, assign e2 X.env)] := by rfl)
    (h2 : (assignEach [e1, e2] X.env).map (·.2) = [assign e1 X.env, assign e2 X.env] := by rfl) :
    PG X (.Tuple [.Starred e1 p, e2] k pos) (gStar X.K t) := by
  constructor
  intro pins s σ H v u Q I r hw
  obtain ⟨a, xs, x, ev, hq, hw⟩ := hw
  subst ev
  cases r
  obtain ⟨its0, rv, ht, hz⟩ := I.tuple hq
  obtain ⟨its, l, e0, r1, r2⟩ : ∃ (its : List Value) (l : Value), its0 = its ++ [l] ∧ Vals xs its ∧ RelV x l := by
    clear hz hq hw ht
    induction xs generalizing its0 with
    | nil =>
      obtain ⟨l, el, rl⟩ := vals1 rv
      exact ⟨[], l, el, .nil, rl⟩
    | cons y ys ih =>
      cases rv with
      | cons ry rr =>
        obtain ⟨its, l, e0, r1, r2⟩ := ih _ rr
        subst e0
        exact ⟨_ :: its, l, rfl, .cons ry r1, r2⟩
  subst e0
  have hl : xs.length = its.length := r1.length
  have hz' : its.length < sizeLine := by
    rw [List.length_append, List.length_singleton] at hz; omega
  rw [PyProof.Rows.assign_Tuple]
  refine wpAny_bind (wpAny_standAt ?_)
  unfold unpack
  rw [h1]
  refine wpAny_bind (wpAny_holding (unpack_star (I.ok.hd hc) ht hz' fun h' tk hk => ?_))
  have I1 : Inv X pins σ H { s with heap := h', toks := tk } := I.kept hk
  have I2 : Inv X pins σ (upd H h'.objs.size (.lst xs)) { s with heap := h'.push { cls := .type "list", data := .seq its.toArray }, toks := tk } :=
    I1.lnew r1 (by omega)
  have z := h.run pins _ σ _ [.ref h'.objs.size, x] [.ref h'.objs.size, l] Q I2 (.cons rfl (.cons r2 .nil)) (hw _ I1.fresh)
  rw [h2] at z
  exact z
/-! ### d.update(e), two tracked dicts -/
def rUpdate : V → List V → Hp → VK → Prop := fun x vs H Q => ∃ d e kvs more, x = .ref d ∧ vs = [.ref e] ∧ d ≠ e ∧ H d = some (.dK kvs) ∧ H e = some (.dK more) ∧ kvs.length + more.length ≤ sizeLine ∧
  (mergeK kvs more).length ≤ sizeLine ∧ Q .non (upd H d (.dK (mergeK kvs more)))
theorem mt_update : MtR X "dict.update" rUpdate := by
  intro pins s σ H x vs v us Q I rx rv h
  obtain ⟨d, e, kvs, more, rfl, rfl, ne, hd, he, hz, hm, q⟩ := h
  cases rx
  obtain rfl := rv.ref1
  obtain ⟨_, lo, ws, rel, dd⟩ := dk_of I.hok hd
  obtain ⟨_, lo2, ms, rel2, dd2⟩ := dk_of I.hok he
  have hl : ws.length + ms.length ≤ sizeLine := by
    rw [← KV.length rel, ← KV.length rel2]; exact hz
  refine call_meetsIn PySem.F.slot_dict_update dd.typeIs PySem.F.entry_dict_update (PySem.F.args_dict_update_2 _ _)
    (meets_dict_update (mixKind X.prog X.w) d e ne lo2) ⟨ws, ms, dd, dd2, hl, fun h' hmm _ hs => ?_⟩
  have hq : ∃ q, h'.get? d = some q := by
    obtain ⟨q, _, _, hq, _⟩ := hmm
    exact ⟨q, hq⟩
  exact ⟨.non, _, d_write (t' := s.toks) I (by rw [hd]; exact True.intro) hs hq (dk_new hm lo (KV.merge rel2 rel) hmm), rfl, q⟩
/-! ### an own operator -/
theorem cmpBack {pins : List (Addr × Obj)} {σ : L2.St} {Q : VK} {v : Value} {s' : Shared} (h : EP X pins σ Q v s') : PySem.W.CmpBack (EP X pins σ Q) v s' := by
  obtain ⟨x, H', I, r, q⟩ := h
  cases x with
  | non => cases r; exact ⟨.non, H', I, rfl, q⟩
  | bl b => cases r; exact ⟨.bl b, H', I, rfl, q⟩
  | int i => obtain ⟨t, rfl⟩ := r; exact ⟨.int i, H', I, ⟨t, rfl⟩, q⟩
  | str i => obtain ⟨t, rfl⟩ := r; exact ⟨.str i, H', I, ⟨t, rfl⟩, q⟩
  | byt i => obtain ⟨t, rfl⟩ := r; exact ⟨.byt i, H', I, ⟨t, rfl⟩, q⟩
  | flt i => obtain ⟨t, rfl⟩ := r; exact ⟨.flt i, H', I, ⟨t, rfl⟩, q⟩
  | ref a => cases r; exact ⟨.ref a, H', I, rfl, q⟩
  | ty n => cases r; exact ⟨.ty n, H', I, rfl, q⟩
/-- what of the class's text an operator's method needs -/
structure OpOf (K : PySem.W.Frag) (C : Addr) (m : Str) (f : Addr) : Prop where
  first : PySem.W.selfFirst K C = true
  at_ : PySem.W.findIn K (.ref C) m = some (some (.ref f))
  fn : PySem.W.isFn K (.ref f) = true
/-- x op y, two instances of C -/
def rOwn2 (C : Addr) (sp : Sp) (E : XK) : R2 := fun x y H Q => ∃ a dx fs b dy gs, x = .ref a ∧ y = .ref b ∧ H a = some (.ins C dx fs) ∧ H b = some (.ins C dy gs) ∧ sp [x, y] H Q E
theorem op_own2 {CX : CXT} {k : Nat} {C f : Addr} {fd : FuncData} {ps : List Str} {sp : Sp} {E : XK} {op : Operator} (T : OpOf X.K C (PySem.dunder op.info.2) f)
    (F : FnOk X.prog X.w X.K X.mg X.base CX k f fd ps sp) (hr : Room k X.A) (hb : Binds X.K fd ps []) (hx : Passes CX X E) : OpR X (binaryOp op) (rOwn2 C sp E) := by
  intro pins s σ H x y v u Q I rx ry h
  obtain ⟨a, dx, fs, b, dy, gs, rfl, rfl, ha, hb', q⟩ := h
  cases rx
  cases ry
  obtain ⟨mA, J, _⟩ := ins_get I.hok ha
  obtain ⟨mB, J', _⟩ := ins_get I.hok hb'
  obtain ⟨od, J, _⟩ := J.look
  obtain ⟨od', J', _⟩ := J'.look
  obtain ⟨m, hF⟩ := I.fr
  refine PySem.W.binop_K hF I.ok.mod.kin J J'.type T.first T.at_ T.fn ?_
  have r2 : Vals [V.ref a, V.ref b] [Value.ref a, Value.ref b] := .cons rfl (.cons rfl .nil)
  exact thn (run_fn (dvs := []) F hr hb .nil hx I r2 q) fun v s' z => cmpBack z
/-- x op i, i an int -/
def rOwnI (C : Addr) (sp : Sp) (E : XK) : R2 := fun x y H Q => ∃ a dx fs i, x = .ref a ∧ y = .int i ∧ H a = some (.ins C dx fs) ∧ sp [x, y] H Q E
theorem op_ownI {CX : CXT} {k : Nat} {C f : Addr} {fd : FuncData} {ps : List Str} {sp : Sp} {E : XK} {op : Operator} {fo ro : Option Value} (T : OpOf X.K C (PySem.dunder op.info.2) f)
    (h1 : PySem.W.findIn X.K (.ref C) (dunderR op.info.2) = some none) (h2 : PySem.W.findIn X.K (.type "int") (PySem.dunder op.info.2) = some fo) (h3 : PySem.W.findIn X.K (.type "int") (dunderR op.info.2) = some ro)
    (h4 : PySem.W.subIn X.K (.type "int") (.ref C) = some false)
    (F : FnOk X.prog X.w X.K X.mg X.base CX k f fd ps sp) (hr : Room k X.A) (hb : Binds X.K fd ps []) (hx : Passes CX X E) : OpR X (binaryOp op) (rOwnI C sp E) := by
  intro pins s σ H x y v u Q I rx ry h
  obtain ⟨a, dx, fs, i, rfl, rfl, ha, q⟩ := h
  cases rx
  obtain ⟨t, rfl⟩ := ry
  obtain ⟨mA, J, _⟩ := ins_get I.hok ha
  obtain ⟨od, J, _⟩ := J.look
  obtain ⟨m, hF⟩ := I.fr
  refine PySem.W.ksp_binT (T := "int") hF I.ok.mod.kin J rfl T.first T.at_ T.fn h1 (.inl rfl) h2 h3 h4 ?_
  have r2 : Vals [V.ref a, V.int i] [Value.ref a, Value.int i t] := .cons rfl (.cons ⟨t, rfl⟩ .nil)
  exact thn (run_fn (dvs := []) F hr hb .nil hx I r2 q) fun v s' z => cmpBack z
/-- x == y, x an instance of C with its own ==, y one too or a list -/
def rOwnEq (C : Addr) (sp : Sp) (E : XK) : R2 := fun x y H Q => ∃ a dx fs b, x = .ref a ∧ y = .ref b ∧ H a = some (.ins C dx fs) ∧ ((∃ dy gs, H b = some (.ins C dy gs)) ∨ ∃ xs, H b = some (.lst xs)) ∧ sp [x, y] H Q E
theorem op_ownEq {CX : CXT} {k : Nat} {C f : Addr} {fd : FuncData} {ps : List Str} {sp : Sp} {E : XK} (h1 : PySem.W.findIn X.K (.ref C) "__eq__" = some (some (.ref f))) (h2 : PySem.W.isFn X.K (.ref f) = true)
    (h3 : PySem.W.notFirst X.K C (.type "list") = true)
    (F : FnOk X.prog X.w X.K X.mg X.base CX k f fd ps sp) (hr : Room k X.A) (hb : Binds X.K fd ps []) (hx : Passes CX X E) : OpR X (compareOp .Eq) (rOwnEq C sp E) := by
  intro pins s σ H x y v u Q I rx ry h
  obtain ⟨a, dx, fs, b, rfl, rfl, ha, hy, q⟩ := h
  cases rx
  cases ry
  obtain ⟨mA, J, _⟩ := ins_get I.hok ha
  obtain ⟨od, J, _⟩ := J.look
  obtain ⟨m, hF⟩ := I.fr
  have r2 : Vals [V.ref a, V.ref b] [Value.ref a, Value.ref b] := .cons rfl (.cons rfl .nil)
  have z := thn (run_fn (dvs := []) F hr hb .nil hx I r2 q) fun v s' z => cmpBack z
  show wpAny _ _ (richCompare .Eq (.ref a) (.ref b)) _ _ s
  rcases hy with ⟨dy, gs, hy⟩ | ⟨xs, hy⟩
  · obtain ⟨mB, J', _⟩ := ins_get I.hok hy
    obtain ⟨od', J', _⟩ := J'.look
    exact PySem.W.cmp_K (op := .Eq) (tb := .ref C) hr.units0 hF I.ok.mod.kin J J'.type (by simp [PySem.W.notFirst]) h1 h2 z
  · obtain ⟨_, its, n, _, _, e⟩ := I.lstM hy
    refine PySem.W.cmp_K (op := .Eq) (tb := .type "list") hr.units0 hF I.ok.mod.kin J (fun A' Q' E' s' k' q' => ?_) h3 h1 h2 z
    exact wpAny_typeOf_ref (k' _ _ e) q'
end
end K46R
/-! part D1 -/
set_option Elab.async false
set_option linter.all false
set_option maxRecDepth 100000
namespace K46
open PySem PySem.Spec PyProof.Rows L2
/-! pieces as data -/
def encX (x : Int × Int) : PyData := .tuple [.int x.1, .int x.2]
def encG (g : Gs) : PyData := .tuple (g.map encX)
mutual
def enc : Pc → PyData
  | .part nm s e g => .tuple [.str ("part" : Str), .str nm, .int s, .int e, encG g]
  | .sil n => .tuple [.str ("silence" : Str), .int n]
  | .sam xs g => .tuple [.str ("samples" : Str), .tuple (xs.map .int), encG g]
  | .rep n ps => .tuple [.str ("repeat" : Str), .int n, .tuple (encs ps)]
def encs : List Pc → List PyData
  | [] => []
  | p :: ps => enc p :: encs ps
end
abbrev encL (ps : List Pc) : PyData := .tuple (encs ps)
theorem encs_app (a b : List Pc) : encs (a ++ b) = encs a ++ encs b := by
  induction a with
  | nil => simp [encs]
  | cons p a ih => simp [encs, ih]
theorem encs_len (a : List Pc) : (encs a).length = a.length := by
  induction a with
  | nil => simp [encs]
  | cons p a ih => simp [encs, ih]
theorem encs_get : ∀ (ps : List Pc) (i : Nat), (encs ps)[i]? = (ps[i]?).map enc
  | [], i => by simp [encs]
  | p :: ps, 0 => by simp [encs]
  | p :: ps, i + 1 => by simp [encs, encs_get ps i]
theorem at_wf {S : Snd} {m : Nat} : ∀ {ps : List Pc} {i : Nat} {p : Pc}, wfs S m ps → ps[i]? = some p → wf S m p ∧ dep p ≤ deps ps ∧ plen p ≤ tlen ps
  | [], i, p, _, e => by simp at e
  | p' :: ps, 0, p, h, e => by
    cases e
    have := tlen_nn ps h.2
    exact ⟨h.1, by simp only [deps]; omega, by simp only [tlen]; omega⟩
  | p' :: ps, i + 1, p, h, e => by
    have q := at_wf (i := i) h.2 e
    have := plen_sem p' h.1
    exact ⟨q.1, by simp only [deps]; omega, by simp only [tlen]; omega⟩
/-! reading Dp -/
section
variable {K : PySem.W.Frag} {H H' : Hp} {v : V}
theorem dp_tup {ds : List PyData} (h : Dp K H v (.tuple ds)) : ∃ a xs, v = .ref a ∧ SqT K H a xs ∧ DpAll K H xs ds := by
  cases h with
  | tup h1 h2 => exact ⟨_, _, rfl, h1, h2⟩
theorem dp_lst {ds : List PyData} (h : Dp K H v (.list ds)) : ∃ a xs, v = .ref a ∧ SqL K H a xs ∧ DpAll K H xs ds := by
  cases h with
  | lst h1 h2 => exact ⟨_, _, rfl, h1, h2⟩
theorem dp_int {i : Int} (h : Dp K H v (.int i)) : v = .int i := by cases h; rfl
theorem dp_str {x : Str} (h : Dp K H v (.str x)) : v = .str x := by cases h; rfl
theorem dpa_nil {xs : List V} (h : DpAll K H xs []) : xs = [] := by cases h; rfl
theorem dpa_cons {xs : List V} {d : PyData} {ds : List PyData} (h : DpAll K H xs (d :: ds)) : ∃ x r, xs = x :: r ∧ Dp K H x d ∧ DpAll K H r ds := by
  cases h with
  | cons h1 h2 => exact ⟨_, _, rfl, h1, h2⟩
theorem dpa_len : ∀ {xs : List V} {ds : List PyData}, DpAll K H xs ds → xs.length = ds.length
  | _, [], h => by rw [dpa_nil h]; rfl
  | _, d :: ds, h => by
    obtain ⟨x, r, rfl, _, h2⟩ := dpa_cons h
    rw [List.length_cons, List.length_cons, dpa_len h2]
theorem dpa_app : ∀ {xs ys : List V} {ds es : List PyData}, DpAll K H xs ds → DpAll K H ys es → DpAll K H (xs ++ ys) (ds ++ es)
  | _, _, [], _, h, h' => by rw [dpa_nil h]; exact h'
  | _, _, d :: ds, _, h, h' => by
    obtain ⟨x, r, rfl, h1, h2⟩ := dpa_cons h
    exact .cons h1 (dpa_app h2 h')
theorem dpa_at : ∀ {xs : List V} {ds : List PyData} {i : Nat} {d : PyData}, DpAll K H xs ds → ds[i]? = some d → ∃ x, xs[i]? = some x ∧ Dp K H x d
  | _, [], i, d, h, e => by simp at e
  | _, d' :: ds, 0, d, h, e => by
    obtain ⟨x, r, rfl, h1, h2⟩ := dpa_cons h
    cases e
    exact ⟨x, rfl, h1⟩
  | _, d' :: ds, i + 1, d, h, e => by
    obtain ⟨x, r, rfl, h1, h2⟩ := dpa_cons h
    obtain ⟨y, q1, q2⟩ := dpa_at h2 (i := i) e
    exact ⟨y, q1, q2⟩
theorem dpa_split : ∀ {xs : List V} {ds es : List PyData}, DpAll K H xs (ds ++ es) → ∃ ys zs, xs = ys ++ zs ∧ DpAll K H ys ds ∧ DpAll K H zs es
  | xs, [], es, h => ⟨[], xs, rfl, .nil, h⟩
  | _, d :: ds, es, h => by
    obtain ⟨x, r, rfl, h1, h2⟩ := dpa_cons h
    obtain ⟨ys, zs, rfl, h3, h4⟩ := dpa_split h2
    exact ⟨x :: ys, zs, rfl, .cons h1 h3, h4⟩
theorem dpa_ints : ∀ {xs : List V} {ns : List Int}, DpAll K H xs (ns.map .int) → xs = ns.map V.int
  | _, [], h => dpa_nil h
  | _, n :: ns, h => by
    obtain ⟨x, r, rfl, h1, h2⟩ := dpa_cons h
    rw [dp_int h1, dpa_ints h2]; rfl
theorem dpa_of_ints : ∀ ns : List Int, DpAll K H (ns.map V.int) (ns.map .int)
  | [] => .nil
  | n :: ns => .cons (.int n) (dpa_of_ints ns)
theorem dpa_strs : ∀ {xs : List V} {ns : List Str}, DpAll K H xs (ns.map .str) → xs = ns.map V.str
  | _, [], h => dpa_nil h
  | _, n :: ns, h => by
    obtain ⟨x, r, rfl, h1, h2⟩ := dpa_cons h
    rw [dp_str h1, dpa_strs h2]; rfl
theorem dpa_of_strs : ∀ ns : List Str, DpAll K H (ns.map V.str) (ns.map .str)
  | [] => .nil
  | n :: ns => .cons (.str n) (dpa_of_strs ns)
theorem sqT_mono {a : Addr} {xs : List V} (e : Same H H') (h : SqT K H a xs) : SqT K H' a xs := by
  rcases h with (h | ⟨o, h⟩) | h
  · exact .inl (.inl (e _ _ h))
  · exact .inl (.inr ⟨o, e _ _ h⟩)
  · exact .inr h
mutual
theorem dp_mono (e : Same H H') : ∀ (d : PyData) (v : V), Dp K H v d → Dp K H' v d
  | .none, v, h => by cases h; exact .non
  | .bool b, v, h => by cases h; exact .bl b
  | .int i, v, h => by cases h; exact .int i
  | .str i, v, h => by cases h; exact .str i
  | .list ds, v, h => by
    obtain ⟨a, xs, rfl, h1, h2⟩ := dp_lst h
    exact .lst (e.seq h1) (dpa_mono e ds xs h2)
  | .tuple ds, v, h => by
    obtain ⟨a, xs, rfl, h1, h2⟩ := dp_tup h
    exact .tup (sqT_mono e h1) (dpa_mono e ds xs h2)
  | .dict ds, v, h => by cases h
theorem dpa_mono (e : Same H H') : ∀ (ds : List PyData) (xs : List V), DpAll K H xs ds → DpAll K H' xs ds
  | [], xs, h => by rw [dpa_nil h]; exact .nil
  | d :: ds, xs, h => by
    obtain ⟨x, r, rfl, h1, h2⟩ := dpa_cons h
    exact .cons (dp_mono e d x h1) (dpa_mono e ds r h2)
end
/-! pieces by kind -/
theorem at_part {nm : Str} {s e : Int} {g : Gs} (h : Dp K H v (enc (.part nm s e g))) :
    ∃ a gv, v = .ref a ∧ SqT K H a [.str ("part" : Str), .str nm, .int s, .int e, gv] ∧ Dp K H gv (encG g) := by
  simp only [enc] at h
  obtain ⟨a, xs, rfl, h1, h2⟩ := dp_tup h
  obtain ⟨x1, r1, rfl, q1, h2⟩ := dpa_cons h2
  obtain ⟨x2, r2, rfl, q2, h2⟩ := dpa_cons h2
  obtain ⟨x3, r3, rfl, q3, h2⟩ := dpa_cons h2
  obtain ⟨x4, r4, rfl, q4, h2⟩ := dpa_cons h2
  obtain ⟨x5, r5, rfl, q5, h2⟩ := dpa_cons h2
  cases dpa_nil h2
  cases dp_str q1
  cases dp_str q2
  cases dp_int q3
  cases dp_int q4
  exact ⟨a, x5, rfl, h1, q5⟩
theorem at_sil {n : Int} (h : Dp K H v (enc (.sil n))) : ∃ a, v = .ref a ∧ SqT K H a [.str ("silence" : Str), .int n] := by
  simp only [enc] at h
  obtain ⟨a, xs, rfl, h1, h2⟩ := dp_tup h
  obtain ⟨x1, r1, rfl, q1, h2⟩ := dpa_cons h2
  obtain ⟨x2, r2, rfl, q2, h2⟩ := dpa_cons h2
  cases dpa_nil h2
  cases dp_str q1
  cases dp_int q2
  exact ⟨a, rfl, h1⟩
theorem at_sam {ns : List Int} {g : Gs} (h : Dp K H v (enc (.sam ns g))) :
    ∃ a b gv, v = .ref a ∧ SqT K H a [.str ("samples" : Str), .ref b, gv] ∧ SqT K H b (ns.map V.int) ∧ Dp K H gv (encG g) := by
  simp only [enc] at h
  obtain ⟨a, xs, rfl, h1, h2⟩ := dp_tup h
  obtain ⟨x1, r1, rfl, q1, h2⟩ := dpa_cons h2
  obtain ⟨x2, r2, rfl, q2, h2⟩ := dpa_cons h2
  obtain ⟨x3, r3, rfl, q3, h2⟩ := dpa_cons h2
  cases dpa_nil h2
  cases dp_str q1
  obtain ⟨b, ys, rfl, h3, h4⟩ := dp_tup q2
  rw [dpa_ints h4] at h3
  exact ⟨a, b, x3, rfl, h1, h3, q3⟩
theorem at_rep {n : Int} {ps : List Pc} (h : Dp K H v (enc (.rep n ps))) :
    ∃ a pv, v = .ref a ∧ SqT K H a [.str ("repeat" : Str), .int n, pv] ∧ Dp K H pv (encL ps) := by
  simp only [enc] at h
  obtain ⟨a, xs, rfl, h1, h2⟩ := dp_tup h
  obtain ⟨x1, r1, rfl, q1, h2⟩ := dpa_cons h2
  obtain ⟨x2, r2, rfl, q2, h2⟩ := dpa_cons h2
  obtain ⟨x3, r3, rfl, q3, h2⟩ := dpa_cons h2
  cases dpa_nil h2
  cases dp_str q1
  cases dp_int q2
  exact ⟨a, x3, rfl, h1, q3⟩
theorem of_part {a : Addr} {gv : V} {nm : Str} {s e : Int} {g : Gs} (h : SqT K H a [.str ("part" : Str), .str nm, .int s, .int e, gv]) (hg : Dp K H gv (encG g)) : Dp K H (.ref a) (enc (.part nm s e g)) := by
  simp only [enc]
  exact .tup h (.cons (.str _) (.cons (.str _) (.cons (.int _) (.cons (.int _) (.cons hg .nil)))))
theorem of_sil {a : Addr} {n : Int} (h : SqT K H a [.str ("silence" : Str), .int n]) : Dp K H (.ref a) (enc (.sil n)) := by
  simp only [enc]
  exact .tup h (.cons (.str _) (.cons (.int _) .nil))
theorem of_sam {a b : Addr} {gv : V} {ns : List Int} {g : Gs} (h : SqT K H a [.str ("samples" : Str), .ref b, gv]) (hb : SqT K H b (ns.map V.int)) (hg : Dp K H gv (encG g)) : Dp K H (.ref a) (enc (.sam ns g)) := by
  simp only [enc]
  exact .tup h (.cons (.str _) (.cons (.tup hb (dpa_of_ints ns)) (.cons hg .nil)))
theorem of_rep {a : Addr} {pv : V} {n : Int} {ps : List Pc} (h : SqT K H a [.str ("repeat" : Str), .int n, pv]) (hp : Dp K H pv (encL ps)) : Dp K H (.ref a) (enc (.rep n ps)) := by
  simp only [enc]
  exact .tup h (.cons (.str _) (.cons (.int _) (.cons hp .nil)))
end
/-! shapes: what == asks -/
theorem strOk_ab {nm : Str} (h : nm = sA ∨ nm = sB) : PyData.strOk nm = true := by
  rcases h with rfl | rfl <;> decide +kernel
theorem lay_ints : ∀ ns : List Int, PyData.canLayAll0 (ns.map .int) = true ∧ PyData.depthAll (ns.map .int) = 0
  | [] => by simp [PyData.canLayAll0, PyData.depthAll]
  | n :: ns => by simp [PyData.canLayAll0, PyData.depthAll, PyData.canLay0, PyData.depth, lay_ints ns]
theorem lay_gs : ∀ g : Gs, PyData.canLayAll0 (g.map encX) = true ∧ PyData.depthAll (g.map encX) ≤ 1
  | [] => by simp [PyData.canLayAll0, PyData.depthAll]
  | x :: g => by
    have q := lay_gs g
    simp [PyData.canLayAll0, PyData.depthAll, PyData.canLay0, PyData.depth, encX, q.1]
    omega
theorem lay_encG (g : Gs) : (encG g).canLay0 = true ∧ (encG g).depth ≤ 2 := by
  have q := lay_gs g
  simp only [encG, PyData.canLay0, PyData.depth]
  exact ⟨q.1, by omega⟩
theorem lay_all {S : Snd} {m : Nat} (ps : List Pc) : wfs S m ps → PyData.canLayAll0 (encs ps) = true ∧ PyData.depthAll (encs ps) ≤ 2 * deps ps + 3 := by
  refine Pc.rec_1 (motive_1 := fun p => wf S m p → (enc p).canLay0 = true ∧ (enc p).depth ≤ 2 * dep p + 3) (motive_2 := fun ps => wfs S m ps → PyData.canLayAll0 (encs ps) = true ∧ PyData.depthAll (encs ps) ≤ 2 * deps ps + 3) ?_ ?_ ?_ ?_ ?_ ?_ ps
  · intro nm s e g h
    have q := lay_encG g
    have k1 : PyData.strOk ("part" : Str) = true := by decide +kernel
    simp only [enc, PyData.canLay0, PyData.canLayAll0, PyData.depth, PyData.depthAll, q.1, k1, strOk_ab h.1, Bool.and_self, dep]
    refine ⟨trivial, ?_⟩
    omega
  · intro n h
    have k1 : PyData.strOk ("silence" : Str) = true := by decide +kernel
    simp only [enc, PyData.canLay0, PyData.canLayAll0, PyData.depth, PyData.depthAll, k1, Bool.and_self, dep]
    refine ⟨trivial, ?_⟩
    omega
  · intro xs g h
    have q := lay_encG g
    have q2 := lay_ints xs
    have k1 : PyData.strOk ("samples" : Str) = true := by decide +kernel
    simp only [enc, PyData.canLay0, PyData.canLayAll0, PyData.depth, PyData.depthAll, q.1, q2.1, q2.2, k1, Bool.and_self, dep]
    refine ⟨trivial, ?_⟩
    omega
  · intro n ps ih h
    have q := ih h.2.2
    have k1 : PyData.strOk ("repeat" : Str) = true := by decide +kernel
    simp only [enc, PyData.canLay0, PyData.canLayAll0, PyData.depth, PyData.depthAll, q.1, k1, Bool.and_self, dep]
    refine ⟨trivial, ?_⟩
    omega
  · intro _; simp [encs, PyData.canLayAll0, PyData.depthAll]
  · intro p ps h1 h2 h
    have a := h1 h.1
    have b := h2 h.2
    simp only [encs, PyData.canLayAll0, PyData.depthAll, a.1, b.1, Bool.and_self, deps]
    refine ⟨trivial, ?_⟩
    omega
theorem shaped_encL {S : Snd} {m : Nat} {ps : List Pc} (h : wfs S m ps) (hd : deps ps ≤ 20) : SeqAt.shaped (encL ps) = true := by
  have q := lay_all ps h
  unfold SeqAt.shaped
  simp only [encL, PyData.canLay0, q.1, PyData.depth, Bool.true_and]
  exact decide_eq_true (by omega)
theorem shaped_encG (g : Gs) : SeqAt.shaped (encG g) = true := by
  have q := lay_encG g
  unfold SeqAt.shaped
  rw [q.1, Bool.true_and]
  exact decide_eq_true (by omega)
theorem eqv_encL {S : Snd} {m : Nat} {ps : List Pc} (h : wfs S m ps) : PyData.eqv (encL ps) (encL ps) = true :=
  SeqAt.eqv_refl _ (by simp only [encL, PyData.canLay0]; exact (lay_all ps h).1)
theorem eqv_nil (ps : List Pc) : PyData.eqv (encL ps) (.tuple []) = ps.isEmpty := by
  cases ps <;> simp [encL, encs, PyData.eqv, PyData.eqvAll]
theorem eqv_encX (x y : Int × Int) : PyData.eqv (encX x) (encX y) = decide (x = y) := by
  obtain ⟨a, b⟩ := x
  obtain ⟨c, d⟩ := y
  simp [encX, PyData.eqv, PyData.eqvAll]
  by_cases h1 : a = c <;> by_cases h2 : b = d <;> simp [h1, h2]
theorem eqv_gs : ∀ g g' : Gs, PyData.eqvAll (g.map encX) (g'.map encX) = decide (g = g')
  | [], [] => by simp [PyData.eqvAll]
  | [], _ :: _ => by simp [PyData.eqvAll]
  | _ :: _, [] => by simp [PyData.eqvAll]
  | x :: g, y :: g' => by
    simp only [List.map_cons, PyData.eqvAll, eqv_encX, eqv_gs g g']
    by_cases h1 : x = y <;> by_cases h2 : g = g' <;> simp [h1, h2]
theorem eqv_encG (g g' : Gs) : PyData.eqv (encG g) (encG g') = decide (g = g') := by
  simp only [encG, PyData.eqv, eqv_gs]
theorem eqv_ints : ∀ a b : List Int, PyData.eqvAll (a.map .int) (b.map .int) = decide (a = b)
  | [], [] => by simp [PyData.eqvAll]
  | [], _ :: _ => by simp [PyData.eqvAll]
  | _ :: _, [] => by simp [PyData.eqvAll]
  | x :: g, y :: g' => by
    simp only [List.map_cons, PyData.eqvAll, PyData.eqv, eqv_ints g g']
    by_cases h1 : x = y <;> by_cases h2 : g = g' <;> simp [h1, h2]
/-! heaps -/
theorem take_map_snoc {α β : Type} (l : List α) (f : α → β) {i : Nat} {x : α} (h : l[i]? = some x) : (l.take i).map f ++ [f x] = (l.take (i + 1)).map f := by
  rw [List.take_add_one, h, List.map_append]; rfl
/-- a store to a new object leaves what was tracked ahead -/
theorem keep_new {H H' : Hp} {p : Addr} {o : HO} (h : H p = none) (e : Same H H') : Same H (upd H' p o) := fun b u q => by
  rw [upd_ne (ne_of_none q h)]; exact e _ _ q
theorem same_new {H : Hp} {p : Addr} (h : H p = none) (o : HO) : Same H (upd H p o) := fun b u q => by rw [upd_ne (ne_of_none q h)]; exact q
abbrev top (i : Nat) : Stmt := PySem.Challenge.pw_framejoins_k46_whole_clips_are_their_sam.main.body.getD i (.Pass ⟨0, 0, 0, 0⟩)
abbrev BIG : Int := 1000000
theorem big_size {n : Nat} (h : (n : Int) ≤ BIG) : n ≤ sizeLine := by
  have e : (1000000 : Nat) ≤ sizeLine := by decide
  have h' : (n : Int) ≤ 1000000 := h
  omega
theorem small {n : Nat} (h : n ≤ 1000) : n ≤ sizeLine := Nat.le_of_lt (small1000 h)
/-- a def of the module, as callers use it -/
structure Df (K : PySem.W.Frag) (mg : Str → Option Value) (x : Str) (st : Stmt) (ps : List Str) (f : Addr) (fd : FuncData) : Prop where
  fn : Fun K x x st f fd
  bd : Binds K fd ps []
  mg : mg x = some (.ref f)
end K46
/-! part W1 -/
set_option Elab.async false
set_option linter.all false
set_option maxRecDepth 100000
set_option maxHeartbeats 1000000
namespace K46
open PySem PySem.Spec PyProof.Rows L2 K46R
abbrev sPlen : Stmt := top 21
abbrev sTlen : Stmt := top 22
def spPlen (K : PySem.W.Frag) (n : Nat) : Sp := fun vs H Q _ => ∃ (S : Snd) (m : Nat) (p : Pc) (v : V), vs = [v] ∧ Dp K H v (enc p) ∧ wf S m p ∧ plen p ≤ BIG ∧ dep p < n ∧ ∀ H', Same H H' → Q (.int (plen p)) H'
def spTlen (K : PySem.W.Frag) (n : Nat) : Sp := fun vs H Q _ => ∃ (S : Snd) (m : Nat) (ps : List Pc) (v : V), vs = [v] ∧ Dp K H v (encL ps) ∧ wfs S m ps ∧ tlen ps ≤ BIG ∧ deps ps < n ∧ ∀ H', Same H H' → Q (.int (tlen ps)) H'
section
variable {P : Program} {w : World} {K : PySem.W.Frag} {mg : Str → Option Value} {base : Heap} {f g : Addr} {fd gd : FuncData}
theorem tagne {a b : Str} (h : ¬ a = b) : decide (V.str a = V.str b) = false := decide_eq_false fun e => h (by cases e; rfl)
theorem tageq {a : Str} : decide (V.str a = V.str a) = true := decide_eq_true rfl
theorem iteD {c A B : Prop} [Decidable c] (hc : ¬ c) (h : B) : if decide c = true then A else B := by rw [decide_eq_false hc]; exact h
theorem iteE {c A B : Prop} [Decidable c] (hc : c) (h : A) : if decide c = true then A else B := by rw [decide_eq_true hc]; exact h
theorem vne {a b : Str} (h : ¬ a = b) : ¬ V.str a = V.str b := fun e => h (by cases e; rfl)
theorem sil_part : ¬ V.str ("silence" : Str) = V.str ("part" : Str) := vne (by decide +kernel)
theorem sam_part : ¬ V.str ("samples" : Str) = V.str ("part" : Str) := vne (by decide +kernel)
theorem sam_sil : ¬ V.str ("samples" : Str) = V.str ("silence" : Str) := vne (by decide +kernel)
theorem rep_part : ¬ V.str ("repeat" : Str) = V.str ("part" : Str) := vne (by decide +kernel)
theorem rep_sil : ¬ V.str ("repeat" : Str) = V.str ("silence" : Str) := vne (by decide +kernel)
theorem rep_sam : ¬ V.str ("repeat" : Str) = V.str ("samples" : Str) := vne (by decide +kernel)
theorem part_sil : ¬ V.str ("part" : Str) = V.str ("silence" : Str) := vne (by decide +kernel)
theorem part_rep : ¬ V.str ("part" : Str) = V.str ("repeat" : Str) := vne (by decide +kernel)
theorem sil_rep : ¬ V.str ("silence" : Str) = V.str ("repeat" : Str) := vne (by decide +kernel)
theorem sam_rep : ¬ V.str ("samples" : Str) = V.str ("repeat" : Str) := vne (by decide +kernel)
theorem scPlen : FnScope ["piece"] ["piece"] (defScope sPlen) := ⟨rfl, rfl, rfl, by decide +kernel, rfl, by decide +kernel, by decide +kernel⟩
theorem ok_plen {n : Nat} (F : Fun K "piece_length" "piece_length" sPlen f fd) (D : Df K mg "total_length" sTlen ["pieces"] g gd) (G : FnOk P w K mg base CX0 (2 * n + 1) g gd ["pieces"] (spTlen K n)) (ml : mg "len" = none) :
    FnOk P w K mg base CX0 (2 * n + 2) f fd ["piece"] (spPlen K (n + 1)) := by
  refine F.ok scPlen (fun vs H Q E h => ?_) (fun cdv A outer s H vs Q E hr h => ?_)
  · obtain ⟨S, m, p, v, rfl, _⟩ := h
    rfl
  obtain ⟨S, m, p, v, rfl, hd, hw, hb, hdp, q⟩ := h
  refine ⟨_, pss_cons (ps_if (pt_cmpR op_eq (pe_ix ix_tup (pv 0) pe_int (fun _ _ => rfl)) pe_str (nomark _)) (pss_one (ps_ret (pe_op op_sub (pe_ix ix_tup (pv 0) pe_int (fun _ _ => rfl)) (pe_ix ix_tup (pv 0) pe_int (fun _ _ => rfl))))) pss_nil)
    (pss_cons (ps_if (pt_cmpR op_eq (pe_ix ix_tup (pv 0) pe_int (fun _ _ => rfl)) pe_str (nomark _)) (pss_one (ps_ret (pe_ix ix_tup (pv 0) pe_int (fun _ _ => rfl)))) pss_nil)
    (pss_cons (ps_if (pt_cmpR op_eq (pe_ix ix_tup (pv 0) pe_int (fun _ _ => rfl)) pe_str (nomark _)) (pss_one (ps_ret (pe_callB call_len_seq (by rfl) ml PySem.boot_len (pa_cons (pe_ix ix_tup (pv 0) pe_int (fun _ _ => rfl)) pa_nil)))) pss_nil)
    (pss_one (ps_ret (pe_op op_mul (pe_ix ix_tup (pv 0) pe_int (fun _ _ => rfl)) (pe_call G hr rfl D.mg D.fn.kp D.bd .nil pass0 (pa_cons (pe_ix ix_tup (pv 0) pe_int (fun _ _ => rfl)) pa_nil))))))), ?_⟩
  cases p with
  | part nm s0 e0 g0 =>
    obtain ⟨a, gv, rfl, h1, h2⟩ := at_part hd
    refine ⟨_, rfl, a, _, _, _, rfl, rfl, h1, rfl, rfl, _, rfl, ?_⟩
    refine iteE rfl ?_
    exact ⟨_, rfl, a, _, _, _, rfl, rfl, h1, rfl, _, rfl, a, _, _, _, rfl, rfl, h1, rfl, _, _, rfl, rfl, q _ (Same.refl _)⟩
  | sil n0 =>
    obtain ⟨a, rfl, h1⟩ := at_sil hd
    refine ⟨_, rfl, a, _, _, _, rfl, rfl, h1, rfl, rfl, _, rfl, ?_⟩
    refine iteD sil_part ?_
    refine ⟨_, rfl, a, _, _, _, rfl, rfl, h1, rfl, rfl, _, rfl, ?_⟩
    refine iteE rfl ?_
    exact ⟨_, rfl, a, _, _, _, rfl, rfl, h1, rfl, q _ (Same.refl _)⟩
  | sam xs g0 =>
    obtain ⟨a, b, gv, rfl, h1, h2, h3⟩ := at_sam hd
    refine ⟨_, rfl, a, _, _, _, rfl, rfl, h1, rfl, rfl, _, rfl, ?_⟩
    refine iteD sam_part ?_
    refine ⟨_, rfl, a, _, _, _, rfl, rfl, h1, rfl, rfl, _, rfl, ?_⟩
    refine iteD sam_sil ?_
    refine ⟨_, rfl, a, _, _, _, rfl, rfl, h1, rfl, rfl, _, rfl, ?_⟩
    refine iteE rfl ?_
    refine ⟨_, rfl, a, _, _, _, rfl, rfl, h1, rfl, b, _, rfl, .inr h2, ?_⟩
    have z := q _ (Same.refl _)
    simp only [plen] at z
    rw [List.length_map]
    exact z
  | rep n0 ps =>
    obtain ⟨a, pv', rfl, h1, h2⟩ := at_rep hd
    obtain ⟨w1, w2, w3⟩ := hw
    have hp := tlen_pos ps w3 w2
    have hm : n0 ≤ n0 * tlen ps := by
      have : n0 * 1 ≤ n0 * tlen ps := Int.mul_le_mul_of_nonneg_left (by omega) (by omega)
      omega
    have hm2 : tlen ps ≤ n0 * tlen ps := by
      have : 1 * tlen ps ≤ n0 * tlen ps := Int.mul_le_mul_of_nonneg_right (by omega) (by omega)
      omega
    simp only [plen] at hb q
    have hb' : n0 * tlen ps ≤ 1000000 := hb
    simp only [dep] at hdp
    refine ⟨_, rfl, a, _, _, _, rfl, rfl, h1, rfl, rfl, _, rfl, ?_⟩
    refine iteD rep_part ?_
    refine ⟨_, rfl, a, _, _, _, rfl, rfl, h1, rfl, rfl, _, rfl, ?_⟩
    refine iteD rep_sil ?_
    refine ⟨_, rfl, a, _, _, _, rfl, rfl, h1, rfl, rfl, _, rfl, ?_⟩
    refine iteD rep_sam ?_
    refine ⟨_, rfl, a, _, _, _, rfl, rfl, h1, rfl, _, rfl, a, _, _, _, rfl, rfl, h1, rfl, S, m, ps, _, rfl, h2, w3, by omega, by omega, fun H' e => ?_⟩
    exact ⟨_, _, rfl, rfl, .inl ⟨by omega, by omega⟩, q H' e⟩
theorem scTlen : FnScope ["pieces", "piece"] ["pieces"] (defScope sTlen) := ⟨rfl, rfl, rfl, by decide +kernel, rfl, by decide +kernel, by decide +kernel⟩
theorem ok_tlen {n : Nat} (F : Fun K "total_length" "total_length" sTlen f fd) (D : Df K mg "piece_length" sPlen ["piece"] g gd) (G : FnOk P w K mg base CX0 (2 * n) g gd ["piece"] (spPlen K n)) (ms : mg "sum" = none) :
    FnOk P w K mg base CX0 (2 * n + 1) f fd ["pieces"] (spTlen K n) := by
  refine F.ok scTlen (fun vs H Q E h => ?_) (fun cdv A outer s H vs Q E hr h => ?_)
  · obtain ⟨S, m, p, v, rfl, _⟩ := h
    rfl
  obtain ⟨S, m, ps, v, rfl, hd, hw, hb, hdp, q⟩ := h
  refine ⟨_, pss_one (ps_ret (pe_callB (cr_sum rfl) (by rfl) ms (by decide +kernel) (pa_cons
    (pe_lc (own := [("piece", 1)]) (g := gName 1) (tt := tYes) rfl scTlen.nd (pi_tup (pv 0)) (blkOk_by (N := ["pieces", "piece"]) (sc := defScope sTlen) (by decide +kernel))
      (fun _ _ _ _ _ => pg_name (i := 1) scTlen.nd rfl (Or.inl rfl)) (fun _ _ _ _ _ => pts_nil)
      (fun _ _ _ _ _ => pe_call G hr rfl D.mg D.fn.kp D.bd .nil pass0 (pa_cons (pv 1) pa_nil))) pa_nil))), ?_⟩
  obtain ⟨a, xs, rfl, h1, h2⟩ := dp_tup hd
  have hl : xs.length = ps.length := by rw [dpa_len h2, encs_len]
  have hl2 := len_tlen ps hw
  refine ⟨_, rfl, a, rfl, ⟨_, h1⟩, fun D' hD => lc_tup (K := K) (a := a) (xs := xs) (fun i H' => Same H H' ∧ H' D' = some (.lst ((ps.take i).map fun p => V.int (plen p))))
    ⟨same_new hD _, upd_same⟩ (fun i H' _ R => sqT_mono R.1 h1) ?_ ?_⟩
  · rintro i x H' hi ⟨R, hD'⟩
    have hi' : i < ps.length := by rw [← hl]; exact (List.getElem?_eq_some_iff.mp hi).1
    have hp : ps[i]? = some ps[i] := List.getElem?_eq_getElem hi'
    obtain ⟨y, q1, q2⟩ := dpa_at h2 (by rw [encs_get, hp]; rfl)
    rw [hi] at q1
    cases q1
    obtain ⟨w1, w2, w3⟩ := at_wf hw hp
    have hb' : tlen ps ≤ 1000000 := hb
    refine ⟨rfl, ?_⟩
    refine ⟨_, rfl, S, m, ps[i], _, rfl, dp_mono R _ _ q2, w1, by omega, by omega, fun H2 R2 => ?_⟩
    refine ⟨_, R2 _ _ hD', ?_, keep_new hD (R.trans R2), ?_⟩
    · rw [List.length_map, List.length_take]
      have : (1000000 : Nat) < sizeLine := by decide
      omega
    · rw [upd_same, ← take_map_snoc _ _ hp]
  · rintro H' ⟨R, hD'⟩
    rw [hl, List.take_length] at hD'
    have e : (ps.map fun p => V.int (plen p)) = (ps.map plen).map V.int := by rw [List.map_map]; rfl
    rw [e] at hD'
    have z := q H' R
    rw [← tlen_sum] at z
    exact ⟨D', _, rfl, SqL.of hD', z⟩
end
end K46
/-! part W2 -/
set_option Elab.async false
set_option linter.all false
set_option maxRecDepth 100000
set_option maxHeartbeats 1000000
namespace K46
open PySem PySem.Spec PyProof.Rows L2 K46R
abbrev sPcnt : Stmt := top 23
abbrev sMerged : Stmt := top 24
def spPcnt (K : PySem.W.Frag) (n : Nat) : Sp := fun vs H Q _ => ∃ (S : Snd) (m : Nat) (ps : List Pc) (v : V), vs = [v] ∧ Dp K H v (encL ps) ∧ wfs S m ps ∧ tlen ps ≤ BIG ∧ deps ps < n ∧ ∀ H', Same H H' → Q (.int (pcnt ps)) H'
def OptAt (K : PySem.W.Frag) (H : Hp) (v : V) : Option Pc → Prop
  | none => v = .non
  | some z => Dp K H v (enc z)
def spMerged (K : PySem.W.Frag) : Sp := fun vs H Q _ => ∃ (x y : Pc) (v u : V), vs = [v, u] ∧ Dp K H v (enc x) ∧ Dp K H u (enc y) ∧ ∀ H' r, Same H H' → OptAt K H' r (merged x y) → Q r H'
def tag : Pc → Str
  | .part .. => ("part" : Str)
  | .sil _ => ("silence" : Str)
  | .sam .. => ("samples" : Str)
  | .rep .. => ("repeat" : Str)
theorem pcnt_sum : ∀ ps : List Pc, (ps.map pcn).sum = pcnt ps
  | [] => by simp [pcnt]
  | p :: ps => by simp [pcnt, pcnt_sum ps]
theorem iteB {b : Bool} {A B : Prop} (h : b = true) (x : A) : if b = true then A else B := by rw [h]; exact x
theorem iteN {b : Bool} {A B : Prop} (h : b = false) (x : B) : if b = true then A else B := by rw [h]; exact x
section
variable {P : Program} {w : World} {K : PySem.W.Frag} {mg : Str → Option Value} {base : Heap} {f g : Addr} {fd gd : FuncData}
theorem at_any {H : Hp} {v : V} {p : Pc} (h : Dp K H v (enc p)) : ∃ a xs, v = .ref a ∧ SqT K H a (.str (tag p) :: xs) := by
  cases p with
  | part nm s e g => obtain ⟨a, gv, rfl, h1, _⟩ := at_part h; exact ⟨a, _, rfl, h1⟩
  | sil n => obtain ⟨a, rfl, h1⟩ := at_sil h; exact ⟨a, _, rfl, h1⟩
  | sam xs g => obtain ⟨a, b, gv, rfl, h1, _⟩ := at_sam h; exact ⟨a, _, rfl, h1⟩
  | rep n ps => obtain ⟨a, pv', rfl, h1, _⟩ := at_rep h; exact ⟨a, _, rfl, h1⟩
theorem tag_sil {p : Pc} (h : tag p = ("silence" : Str)) : ∃ n, p = .sil n := by
  cases p with
  | sil n => exact ⟨n, rfl⟩
  | part nm s e g => exact absurd h (show ¬ ("part" : Str) = "silence" by decide +kernel)
  | sam xs g => exact absurd h (show ¬ ("samples" : Str) = "silence" by decide +kernel)
  | rep n ps => exact absurd h (show ¬ ("repeat" : Str) = "silence" by decide +kernel)
theorem tag_part {p : Pc} (h : tag p = ("part" : Str)) : ∃ nm s e g, p = .part nm s e g := by
  cases p with
  | part nm s e g => exact ⟨nm, s, e, g, rfl⟩
  | sil n => exact absurd h (show ¬ ("silence" : Str) = "part" by decide +kernel)
  | sam xs g => exact absurd h (show ¬ ("samples" : Str) = "part" by decide +kernel)
  | rep n ps => exact absurd h (show ¬ ("repeat" : Str) = "part" by decide +kernel)
theorem tag_rep {p : Pc} (h : tag p = ("repeat" : Str)) : ∃ n ps, p = .rep n ps := by
  cases p with
  | rep n ps => exact ⟨n, ps, rfl⟩
  | part nm s e g => exact absurd h (show ¬ ("part" : Str) = "repeat" by decide +kernel)
  | sam xs g => exact absurd h (show ¬ ("samples" : Str) = "repeat" by decide +kernel)
  | sil n => exact absurd h (show ¬ ("silence" : Str) = "repeat" by decide +kernel)
theorem scPcnt : FnScope ["pieces", "piece"] ["pieces"] (defScope sPcnt) := ⟨rfl, rfl, rfl, by decide +kernel, rfl, by decide +kernel, by decide +kernel⟩
theorem ok_pcnt {n : Nat} (F : Fun K "piece_count" "piece_count" sPcnt f fd) (D : Df K mg "piece_count" sPcnt ["pieces"] g gd) (G : FnOk P w K mg base CX0 n g gd ["pieces"] (spPcnt K n)) (ms : mg "sum" = none) :
    FnOk P w K mg base CX0 (n + 1) f fd ["pieces"] (spPcnt K (n + 1)) := by
  refine F.ok scPcnt (fun vs H Q E h => ?_) (fun cdv A outer s H vs Q E hr h => ?_)
  · obtain ⟨S, m, p, v, rfl, _⟩ := h
    rfl
  obtain ⟨S, m, ps, v, rfl, hd, hw, hb, hdp, q⟩ := h
  have hb' : tlen ps ≤ 1000000 := hb
  refine ⟨_, pss_one (ps_ret (pe_callB (cr_sum rfl) (by rfl) ms (by decide +kernel) (pa_cons
    (pe_lc (own := [("piece", 1)]) (g := gName 1) (tt := tYes) rfl scPcnt.nd (pi_tup (pv 0)) (blkOk_by (N := ["pieces", "piece"]) (sc := defScope sPcnt) (by decide +kernel))
      (fun _ _ _ _ _ => pg_name (i := 1) scPcnt.nd rfl (Or.inl rfl)) (fun _ _ _ _ _ => pts_nil)
      (fun _ _ _ _ _ => pe_op op_add pe_int (pe_ifExp (pt_cmpR op_eq (pe_ix (r := rIxT K) ix_tup (pv 1) pe_int (fun _ _ => rfl)) pe_str (nomark _))
        (pe_call G hr rfl D.mg D.fn.kp D.bd .nil pass0 (pa_cons (pe_ix (r := rIxT K) ix_tup (pv 1) pe_int (fun _ _ => rfl)) pa_nil)) pe_int))) pa_nil))), ?_⟩
  obtain ⟨a, xs, rfl, h1, h2⟩ := dp_tup hd
  have hl : xs.length = ps.length := by rw [dpa_len h2, encs_len]
  have hl2 := len_tlen ps hw
  refine ⟨_, rfl, a, rfl, ⟨_, h1⟩, fun D' hD => lc_tup (K := K) (a := a) (xs := xs) (fun i H' => Same H H' ∧ H' D' = some (.lst ((ps.take i).map fun p => V.int (pcn p))))
    ⟨same_new hD _, upd_same⟩ (fun i H' _ R => sqT_mono R.1 h1) ?_ ?_⟩
  · rintro i x H' hi ⟨R, hD'⟩
    have hi' : i < ps.length := by rw [← hl]; exact (List.getElem?_eq_some_iff.mp hi).1
    have hp : ps[i]? = some ps[i] := List.getElem?_eq_getElem hi'
    obtain ⟨y, q1, q2⟩ := dpa_at h2 (by rw [encs_get, hp]; rfl)
    rw [hi] at q1
    cases q1
    obtain ⟨w1, w2, w3⟩ := at_wf hw hp
    have q3 := dp_mono R _ _ q2
    have fin : ∀ H2, Same H' H2 → ∃ acc, H2 D' = some (.lst acc) ∧ acc.length < sizeLine ∧ (Same H (upd H2 D' (.lst (acc ++ [V.int (pcn ps[i])]))) ∧
        (upd H2 D' (.lst (acc ++ [V.int (pcn ps[i])]))) D' = some (.lst ((ps.take (i + 1)).map fun p => V.int (pcn p)))) := fun H2 R2 => by
      refine ⟨_, R2 _ _ hD', ?_, keep_new hD (R.trans R2), ?_⟩
      · rw [List.length_map, List.length_take]
        have : (1000000 : Nat) < sizeLine := by decide
        omega
      · rw [upd_same, ← take_map_snoc _ _ hp]
    refine ⟨rfl, ?_⟩
    generalize ps[i] = p at *
    cases p with
    | rep n0 qs =>
      obtain ⟨b, pv', rfl, k1, k2⟩ := at_rep q3
      refine ⟨_, rfl, b, _, _, _, rfl, rfl, k1, rfl, rfl, _, rfl, iteE rfl ?_⟩
      obtain ⟨u1, u2, u3⟩ := w1
      have hm2 : tlen qs ≤ n0 * tlen qs := by
        have : 1 * tlen qs ≤ n0 * tlen qs := Int.mul_le_mul_of_nonneg_right (by omega) (tlen_nn qs u3)
        omega
      simp only [plen] at w3
      simp only [dep] at w2
      refine ⟨_, rfl, b, _, _, _, rfl, rfl, k1, rfl, S, m, qs, _, rfl, k2, u3, by omega, by omega, fun H2 R2 => ?_⟩
      exact ⟨_, _, rfl, rfl, fin H2 R2⟩
    | part nm s0 e0 g0 =>
      obtain ⟨b, gv, rfl, k1, k2⟩ := at_part q3
      refine ⟨_, rfl, b, _, _, _, rfl, rfl, k1, rfl, rfl, _, rfl, iteD part_rep ?_⟩
      exact ⟨_, _, rfl, rfl, fin H' (Same.refl _)⟩
    | sil n0 =>
      obtain ⟨b, rfl, k1⟩ := at_sil q3
      refine ⟨_, rfl, b, _, _, _, rfl, rfl, k1, rfl, rfl, _, rfl, iteD sil_rep ?_⟩
      exact ⟨_, _, rfl, rfl, fin H' (Same.refl _)⟩
    | sam ys g0 =>
      obtain ⟨b, c, gv, rfl, k1, _⟩ := at_sam q3
      refine ⟨_, rfl, b, _, _, _, rfl, rfl, k1, rfl, rfl, _, rfl, iteD sam_rep ?_⟩
      exact ⟨_, _, rfl, rfl, fin H' (Same.refl _)⟩
  · rintro H' ⟨R, hD'⟩
    rw [hl, List.take_length] at hD'
    have e : (ps.map fun p => V.int (pcn p)) = (ps.map pcn).map V.int := by rw [List.map_map]; rfl
    rw [e] at hD'
    have z := q H' R
    rw [← pcnt_sum] at z
    exact ⟨D', _, rfl, SqL.of hD', z⟩
theorem at0 {y : V} {xs : List V} : atI (y :: xs) 0 = some y := atI_nat (j := 0) rfl
theorem scMerged : FnScope ["first", "second"] ["first", "second"] (defScope sMerged) := ⟨rfl, rfl, rfl, by decide +kernel, rfl, by decide +kernel, by decide +kernel⟩
theorem ok_merged (F : Fun K "merged" "merged" sMerged f fd) : FnOk P w K mg base CX0 1 f fd ["first", "second"] (spMerged K) := by
  refine F.ok scMerged (fun vs H Q E h => ?_) (fun cdv A outer s H vs Q E hr h => ?_)
  · obtain ⟨x, y, v, u, rfl, _⟩ := h
    rfl
  obtain ⟨x, y, v, u, rfl, hx, hy, q⟩ := h
  refine ⟨_, pss_cons (ps_if (PW.pt (pw_and (pt_cmpR op_eq (pe_ix ix_tup (pv 0) pe_int (fun _ _ => rfl)) pe_str (nomark _)) (pw_and1 (pt_cmpR op_eq (pe_ix ix_tup (pv 1) pe_int (fun _ _ => rfl)) pe_str (nomark _)))))
      (pss_one (ps_ret (pe_tup (pa_cons pe_str (pa_cons (pe_op op_add (pe_ix ix_tup (pv 0) pe_int (fun _ _ => rfl)) (pe_ix ix_tup (pv 1) pe_int (fun _ _ => rfl))) pa_nil))))) pss_nil)
    (pss_cons (ps_if (PW.pt (pw_and (pt_cmpR op_eq (pe_ix ix_tup (pv 0) pe_int (fun _ _ => rfl)) pe_str (nomark _)) (pw_and (pt_cmpR op_eq (pe_ix ix_tup (pv 1) pe_int (fun _ _ => rfl)) pe_str (nomark _))
        (pw_and (pt_cmpR op_eq (pe_ix ix_tup (pv 0) pe_int (fun _ _ => rfl)) (pe_ix ix_tup (pv 1) pe_int (fun _ _ => rfl)) (nomark _)) (pw_and1 (pt_cmpR op_eq (pe_ix ix_tup (pv 0) pe_int (fun _ _ => rfl)) (pe_ix ix_tup (pv 1) pe_int (fun _ _ => rfl)) (nomark _)))))))
      (pss_one (ps_if (pt_cmpR (op_eqD hr.units) (pe_ix ix_tup (pv 0) pe_int (fun _ _ => rfl)) (pe_ix ix_tup (pv 1) pe_int (fun _ _ => rfl)) (nomark _))
        (pss_one (ps_ret (pe_tup (pa_cons pe_str (pa_cons (pe_ix ix_tup (pv 0) pe_int (fun _ _ => rfl)) (pa_cons (pe_ix ix_tup (pv 0) pe_int (fun _ _ => rfl)) (pa_cons (pe_ix ix_tup (pv 1) pe_int (fun _ _ => rfl)) (pa_cons (pe_ix ix_tup (pv 0) pe_int (fun _ _ => rfl)) pa_nil)))))))) pss_nil)) pss_nil)
    (pss_one (ps_ret pe_non))), ?_⟩
  obtain ⟨a, xs, rfl, h1⟩ := at_any hx
  obtain ⟨b, ys, rfl, h2⟩ := at_any hy
  refine ⟨_, rfl, a, _, _, _, rfl, rfl, h1, at0, rfl, _, rfl, ?_⟩
  by_cases c1 : tag x = ("silence" : Str)
  · obtain ⟨n1, rfl⟩ := tag_sil c1
    refine iteE rfl ⟨_, rfl, b, _, _, _, rfl, rfl, h2, at0, rfl, _, rfl, ?_⟩
    by_cases c2 : tag y = ("silence" : Str)
    · obtain ⟨n2, rfl⟩ := tag_sil c2
      obtain ⟨a', e1, k1⟩ := at_sil hx
      cases e1
      obtain ⟨b', e2, k2⟩ := at_sil hy
      cases e2
      refine iteE rfl ?_
      refine ⟨_, rfl, a, _, _, _, rfl, rfl, k1, rfl, _, rfl, b, _, _, _, rfl, rfl, k2, rfl, _, _, rfl, rfl, by show 2 ≤ sizeLine; decide, fun p np => ?_⟩
      exact q _ _ (same_new np _) (of_sil (SqT.of upd_same))
    · refine iteD (vne c2) ?_
      refine ⟨_, rfl, a, _, _, _, rfl, rfl, h1, at0, rfl, _, rfl, iteD sil_part ?_⟩
      refine q _ _ (Same.refl _) ?_
      cases y <;> first | rfl | exact absurd rfl c2
  · refine iteD (vne c1) ?_
    refine ⟨_, rfl, a, _, _, _, rfl, rfl, h1, at0, rfl, _, rfl, ?_⟩
    by_cases c3 : tag x = ("part" : Str)
    · obtain ⟨nm, s1, e1, g1, rfl⟩ := tag_part c3
      refine iteE rfl ⟨_, rfl, b, _, _, _, rfl, rfl, h2, at0, rfl, _, rfl, ?_⟩
      by_cases c4 : tag y = ("part" : Str)
      · obtain ⟨nm2, s2, e2, g2, rfl⟩ := tag_part c4
        obtain ⟨a', gv, z1, k1, k2⟩ := at_part hx
        cases z1
        obtain ⟨b', gv2, z2, k3, k4⟩ := at_part hy
        cases z2
        refine iteE rfl ⟨_, rfl, a, _, _, _, rfl, rfl, k1, rfl, _, rfl, b, _, _, _, rfl, rfl, k3, rfl, rfl, _, rfl, ?_⟩
        by_cases c5 : nm = nm2
        · refine iteE (by rw [c5]) ⟨_, rfl, a, _, _, _, rfl, rfl, k1, rfl, _, rfl, b, _, _, _, rfl, rfl, k3, rfl, rfl, _, rfl, ?_⟩
          by_cases c6 : e1 = s2
          · refine iteE (by rw [c6]) ?_
            refine ⟨_, rfl, a, _, _, _, rfl, rfl, k1, rfl, _, rfl, b, _, _, _, rfl, rfl, k3, rfl, encG g1, encG g2, k2, k4, shaped_encG g1, shaped_encG g2, _, rfl, ?_⟩
            by_cases c7 : g1 = g2
            · refine iteB (by rw [eqv_encG]; exact decide_eq_true c7) ?_
              refine ⟨_, rfl, a, _, _, _, rfl, rfl, k1, rfl, _, rfl, a, _, _, _, rfl, rfl, k1, rfl, _, rfl, b, _, _, _, rfl, rfl, k3, rfl, _, rfl, a, _, _, _, rfl, rfl, k1, rfl, by show 5 ≤ sizeLine; decide, fun p np => ?_⟩
              have e := same_new np (.tup [.str ("part" : Str), .str nm, .int s1, .int e2, gv])
              refine q _ _ e ?_
              simp only [merged, c5, c6, c7, and_self, if_true]
              rw [← c5, ← c7]
              exact of_part (SqT.of upd_same) (dp_mono e _ _ k2)
            · refine iteN (by rw [eqv_encG]; exact decide_eq_false c7) ?_
              refine q _ _ (Same.refl _) ?_
              simp only [merged, c7, and_false, if_false]; rfl
          · refine iteD (fun z => c6 (by cases z; rfl)) ?_
            refine q _ _ (Same.refl _) ?_
            simp only [merged, c6, false_and, and_false, if_false]; rfl
        · refine iteD (vne c5) ?_
          refine q _ _ (Same.refl _) ?_
          simp only [merged, c5, false_and, if_false]; rfl
      · refine iteD (vne c4) ?_
        refine q _ _ (Same.refl _) ?_
        cases y <;> first | rfl | exact absurd rfl c4
    · refine iteD (vne c3) ?_
      refine q _ _ (Same.refl _) ?_
      cases x <;> first | exact absurd rfl c1 | exact absurd rfl c3 | (cases y <;> rfl)
end
end K46
/-! part W3 -/
set_option Elab.async false
set_option linter.all false
set_option maxRecDepth 100000
set_option maxHeartbeats 1000000
namespace K46
open PySem PySem.Spec PyProof.Rows L2 K46R
abbrev sBoth : Stmt := top 25
abbrev sRepd : Stmt := top 26
def spBoth (K : PySem.W.Frag) : Sp := fun vs H Q _ => ∃ (S : Snd) (m : Nat) (a b : List Pc) (v u : V), vs = [v, u] ∧ Dp K H v (encL a) ∧ Dp K H u (encL b) ∧ wfs S m a ∧ wfs S m b ∧ deps a ≤ 10 ∧ deps b ≤ 10 ∧ tlen a ≤ BIG ∧ tlen b ≤ BIG ∧
  ∀ H' r, Same H H' → Dp K H' r (encL (both a b)) → Q r H'
def spRepd (K : PySem.W.Frag) : Sp := fun vs H Q _ => ∃ (S : Snd) (m : Nat) (ps : List Pc) (c : Int) (v : V), vs = [v, .int c] ∧ Dp K H v (encL ps) ∧ wfs S m ps ∧ deps ps ≤ 10 ∧ (0 ≤ c ∧ c ≤ BIG) ∧
  ∀ H' r, Same H H' → Dp K H' r (encL (repd ps c)) → Q r H'
theorem both_snoc (a : List Pc) (x y : Pc) (r : List Pc) : both (a ++ [x]) (y :: r) = match merged x y with
    | some z => a ++ z :: r
    | none => a ++ [x] ++ y :: r := by
  first
    | (simp only [both, List.getLast?_concat, List.dropLast_concat]; done)
    | (simp only [both, List.getLast?_concat, List.dropLast_concat]; cases merged x y <;> rfl)
theorem cut_init (xs : List V) (v : V) : cutV (xs ++ [v]) none (some (-1)) = xs := by
  have e : HT.sIx (xs ++ [v]).length (xs ++ [v]).length (some (-1)) = xs.length := by
    simp only [HT.sIx, List.length_append, List.length_singleton]
    rw [if_pos (by decide)]; omega
  unfold cutV
  rw [e, HT.sIx_none]; simp
theorem cut_tail (v : V) (xs : List V) : cutV (v :: xs) (some 1) none = xs := by
  have e : HT.sIx (v :: xs).length 0 (some 1) = 1 := by
    simp only [HT.sIx, List.length_cons]
    rw [if_neg (by decide)]; simp
  unfold cutV
  rw [e, HT.sIx_none]; simp
section
variable {P : Program} {w : World} {K : PySem.W.Frag} {mg : Str → Option Value} {base : Heap} {f g : Addr} {fd gd : FuncData}
theorem catA {H : Hp} {a b : Addr} {xs ys : List V} {Q : VK} (h1 : SqT K H a xs) (h2 : SqT K H b ys) (hz : xs.length + ys.length ≤ sizeLine)
    (k : ∀ H' p, Same H H' → SqT K H' p (xs ++ ys) → Q (.ref p) H') : rCatA K (.ref a) (.ref b) H Q := by
  refine ⟨a, b, xs, ys, rfl, rfl, h1, h2, hz, fun e => ?_, fun _ e => ?_, fun _ _ p np => ?_⟩
  · subst e; exact k H b (Same.refl _) h2
  · subst e; exact k H a (Same.refl _) (by rw [List.append_nil]; exact h1)
  · exact k _ p (same_new np _) (SqT.of upd_same)
theorem slA {H : Hp} {a : Addr} {xs : List V} {lo hi : Option Int} {Q : VK} (h1 : SqT K H a xs)
    (k : ∀ H' p, Same H H' → SqT K H' p (cutV xs lo hi) → Q (.ref p) H') : rSlA K (.ref a) lo hi H Q := by
  refine ⟨a, xs, rfl, h1, fun e => ?_, fun _ p np => ?_⟩
  · refine k H a (Same.refl _) ?_
    have z : cutV xs lo hi = xs := by
      unfold cutV
      rw [e.1, e.2]; simp
    rw [z]; exact h1
  · exact k _ p (same_new np _) (SqT.of upd_same)
theorem dp_app {H : Hp} {p : Addr} {xs ys : List V} {a b : List Pc} (h : SqT K H p (xs ++ ys)) (h1 : DpAll K H xs (encs a)) (h2 : DpAll K H ys (encs b)) : Dp K H (.ref p) (encL (a ++ b)) := by
  simp only [encL, encs_app]
  exact .tup h (dpa_app h1 h2)
theorem scBoth : FnScope ["first", "second", "one"] ["first", "second"] (defScope sBoth) := ⟨rfl, rfl, rfl, by decide +kernel, rfl, by decide +kernel, by decide +kernel⟩
theorem ok_both (F : Fun K "both_pieces" "both_pieces" sBoth f fd) (D : Df K mg "merged" sMerged ["first", "second"] g gd) (G : FnOk P w K mg base CX0 1 g gd ["first", "second"] (spMerged K)) :
    FnOk P w K mg base CX0 2 f fd ["first", "second"] (spBoth K) := by
  refine F.ok scBoth (fun vs H Q E h => ?_) (fun cdv A outer s H vs Q E hr h => ?_)
  · obtain ⟨S, m, a, b, v, u, rfl, _⟩ := h
    rfl
  obtain ⟨S, m, a, b, v, u, rfl, hx, hy, wa, wb, da, db, ta, tb, q⟩ := h
  have la := len_tlen a wa
  have lb := len_tlen b wb
  have ta' : tlen a ≤ 1000000 := ta
  have tb' : tlen b ≤ 1000000 := tb
  have sz : (3000000 : Nat) ≤ sizeLine := by decide
  refine ⟨_, pss_cons (ps_set (i := 2) scBoth.nd rfl (Or.inl rfl) (pe_ifExp (PW.pt (pw_and (pt_cmpR (op_neD hr.units) (pv 0) (pe_tup pa_nil) (nomark _)) (pw_and1 (pt_cmpR (op_neD hr.units) (pv 1) (pe_tup pa_nil) (nomark _)))))
        (pe_call G hr rfl D.mg D.fn.kp D.bd .nil pass0 (pa_cons (pe_ix ix_tup (pv 0) (pe_un un_neg pe_int) (fun _ _ => rfl)) (pa_cons (pe_ix ix_tup (pv 1) pe_int (fun _ _ => rfl)) pa_nil))) pe_non))
    (pss_cons (ps_if (pt_cmpR op_isN (pv 2) pe_non (nomark _)) (pss_one (ps_ret (pe_op op_catA (pv 0) (pv 1)))) pss_nil)
    (pss_one (ps_ret (pe_op op_catA (pe_op op_catA (pe_slice sl_tupA (pv 0) po_none (po_some (pe_un un_neg pe_int))) (pe_tup (pa_cons (pv 2) pa_nil))) (pe_slice sl_tupA (pv 1) (po_some pe_int) po_none))))), ?_⟩
  obtain ⟨pa, xs, rfl, h1, h2⟩ := dp_tup hx
  obtain ⟨pb, ys, rfl, h3, h4⟩ := dp_tup hy
  have lx : xs.length = a.length := by rw [dpa_len h2, encs_len]
  have ly : ys.length = b.length := by rw [dpa_len h4, encs_len]
  -- the answer where nothing is joined
  have plainly : both a b = a ++ b → ∀ H1, Same H H1 → rCatA K (.ref pa) (.ref pb) H1 Q := fun e H1 R => by
    refine catA (sqT_mono R h1) (sqT_mono R h3) (by omega) fun H2 p R2 hp => ?_
    refine q H2 _ (R.trans R2) ?_
    rw [e]
    exact dp_app hp (dpa_mono (R.trans R2) _ _ h2) (dpa_mono (R.trans R2) _ _ h4)
  refine ⟨_, rfl, by show 0 ≤ sizeLine; decide, fun p1 np1 => ?_⟩
  have R1 := same_new np1 (.tup [])
  refine ⟨encL a, .tuple [], dp_mono R1 _ _ hx, .tup (SqT.of upd_same) .nil, shaped_encL wa (by omega), by decide, _, rfl, ?_⟩
  by_cases ca : a = []
  · refine iteN (by rw [eqv_nil, ca]; rfl) ?_
    refine ⟨_, rfl, rfl, _, rfl, iteE rfl ?_⟩
    exact ⟨_, rfl, _, rfl, plainly (by rw [ca, both_nil_l]; rfl) _ R1⟩
  refine iteB (by rw [eqv_nil]; cases a <;> first | exact absurd rfl ca | rfl) ?_
  refine ⟨_, rfl, by show 0 ≤ sizeLine; decide, fun p2 np2 => ?_⟩
  have R2 := R1.trans (same_new np2 (.tup []))
  refine ⟨encL b, .tuple [], dp_mono R2 _ _ hy, .tup (SqT.of upd_same) .nil, shaped_encL wb (by omega), by decide, _, rfl, ?_⟩
  by_cases cb : b = []
  · refine iteN (by rw [eqv_nil, cb]; rfl) ?_
    refine ⟨_, rfl, rfl, _, rfl, iteE rfl ?_⟩
    exact ⟨_, rfl, _, rfl, plainly (by rw [cb, both_nil_r, List.append_nil]) _ R2⟩
  refine iteB (by rw [eqv_nil]; cases b <;> first | exact absurd rfl cb | rfl) ?_
  obtain ⟨a', x, rfl⟩ : ∃ a' x, a = a' ++ [x] := ⟨a.dropLast, a.getLast ca, (List.dropLast_concat_getLast ca).symm⟩
  obtain ⟨y, r, rfl⟩ : ∃ y r, b = y :: r := by
    cases b with
    | nil => exact absurd rfl cb
    | cons y r => exact ⟨y, r, rfl⟩
  rw [encs_app] at h2
  obtain ⟨xs', z, rfl, k1, k2⟩ := dpa_split h2
  simp only [encs] at k2 h4
  obtain ⟨vx, z', rfl, k3, k4⟩ := dpa_cons k2
  cases dpa_nil k4
  obtain ⟨vy, ys', rfl, k5, k6⟩ := dpa_cons h4
  refine ⟨_, rfl, _, rfl, pa, _, _, _, rfl, rfl, sqT_mono R2 h1, atI_last _ _, _, rfl, pb, _, _, _, rfl, rfl, sqT_mono R2 h3, at0, x, y, _, _, rfl, dp_mono R2 _ _ k3, dp_mono R2 _ _ k5, fun H3 one R3' ho => ?_⟩
  have R3 := R2.trans R3'
  have bs := both_snoc a' x y r
  cases hm : merged x y with
  | none =>
    rw [hm] at ho bs
    obtain rfl : one = .non := ho
    refine ⟨_, rfl, rfl, _, rfl, iteE rfl ?_⟩
    exact ⟨_, rfl, _, rfl, plainly bs _ R3⟩
  | some zz =>
    rw [hm] at ho bs
    have bs : both (a' ++ [x]) (y :: r) = a' ++ zz :: r := bs
    have ho : Dp K H3 one (enc zz) := ho
    obtain ⟨po, os, rfl, ho1⟩ := at_any ho
    refine ⟨_, rfl, rfl, _, rfl, iteD (fun e => nomatch e) ?_⟩
    refine ⟨_, rfl, _, rfl, _, rfl, slA (sqT_mono R3 h1) fun H4 p4 R4' h5 => ?_⟩
    have h5 : SqT K H4 p4 (cutV (xs' ++ [vx]) none (some (-1))) := h5
    rw [cut_init] at h5
    refine ⟨_, rfl, by show 1 ≤ sizeLine; decide, fun p5 np5 => ?_⟩
    have R5' := same_new np5 (.tup [.ref po])
    simp only [List.length_append, List.length_cons, List.length_nil] at lx ly la lb
    refine catA (sqT_mono R5' h5) (SqT.of upd_same) (by simp only [List.length_cons, List.length_nil]; omega) fun H6 p6 R6' h6 => ?_
    have R6 := R3.trans (R4'.trans (R5'.trans R6'))
    refine ⟨_, rfl, _, rfl, ?_⟩
    dsimp only [tNoPart]
    refine slA (sqT_mono R6 h3) fun H7 p7 R7' h7 => ?_
    have h7 : SqT K H7 p7 (cutV (vy :: ys') (some 1) none) := h7
    rw [cut_tail] at h7
    refine catA (sqT_mono R7' h6) h7 (by simp only [List.length_append, List.length_cons, List.length_nil]; omega) fun H8 p8 R8' h8 => ?_
    have R8 := R6.trans (R7'.trans R8')
    refine q H8 _ R8 ?_
    rw [bs]
    have e : a' ++ zz :: r = (a' ++ [zz]) ++ r := by simp
    rw [e]
    refine dp_app h8 ?_ (dpa_mono R8 _ _ k6)
    rw [encs_app]
    refine dpa_app (dpa_mono R8 _ _ k1) ?_
    simp only [encs]
    exact .cons (dp_mono (R4'.trans (R5'.trans (R6'.trans (R7'.trans R8')))) _ _ ho) .nil
theorem scRepd : FnScope ["pieces", "count"] ["pieces", "count"] (defScope sRepd) := ⟨rfl, rfl, rfl, by decide +kernel, rfl, by decide +kernel, by decide +kernel⟩
theorem ok_repd (F : Fun K "repeated_pieces" "repeated_pieces" sRepd f fd) (ml : mg "len" = none) : FnOk P w K mg base CX0 1 f fd ["pieces", "count"] (spRepd K) := by
  refine F.ok scRepd (fun vs H Q E h => ?_) (fun cdv A outer s H vs Q E hr h => ?_)
  · obtain ⟨S, m, ps, c, v, rfl, _⟩ := h
    rfl
  obtain ⟨S, m, ps, c, v, rfl, hd, hw, hdp, hc, q⟩ := h
  have hc' : c ≤ 1000000 := hc.2
  refine ⟨_, pss_cons (ps_if (PW.pt (pw_or (pt_cmpR op_eq (pv 1) pe_int (nomark _)) (pw_or1 (pt_cmpR (op_eqD hr.units) (pv 0) (pe_tup pa_nil) (nomark _))))) (pss_one (ps_ret (pe_tup pa_nil))) pss_nil)
    (pss_cons (ps_if (pt_cmpR op_eq (pv 1) pe_int (nomark _)) (pss_one (ps_ret (pv 0))) pss_nil)
    (pss_cons (ps_if (PW.pt (pw_and (pt_cmpR op_eq (pe_callB call_len_seq (by rfl) ml PySem.boot_len (pa_cons (pv 0) pa_nil)) pe_int (nomark _)) (pw_and1 (pt_cmpR op_eq (pe_ix ix_tup (pe_ix ix_tup (pv 0) pe_int (fun _ _ => rfl)) pe_int (fun _ _ => rfl)) pe_str (nomark _)))))
      (pss_one (ps_ret (pe_tup (pa_cons (pe_tup (pa_cons pe_str (pa_cons (pe_op op_mul (pe_ix ix_tup (pe_ix ix_tup (pv 0) pe_int (fun _ _ => rfl)) pe_int (fun _ _ => rfl)) (pv 1)) pa_nil))) pa_nil)))) pss_nil)
    (pss_cons (ps_if (PW.pt (pw_and (pt_cmpR op_eq (pe_callB call_len_seq (by rfl) ml PySem.boot_len (pa_cons (pv 0) pa_nil)) pe_int (nomark _)) (pw_and1 (pt_cmpR op_eq (pe_ix ix_tup (pe_ix ix_tup (pv 0) pe_int (fun _ _ => rfl)) pe_int (fun _ _ => rfl)) pe_str (nomark _)))))
      (pss_one (ps_ret (pe_tup (pa_cons (pe_tup (pa_cons pe_str (pa_cons (pe_op op_mul (pe_ix ix_tup (pe_ix ix_tup (pv 0) pe_int (fun _ _ => rfl)) pe_int (fun _ _ => rfl)) (pv 1)) (pa_cons (pe_ix ix_tup (pe_ix ix_tup (pv 0) pe_int (fun _ _ => rfl)) pe_int (fun _ _ => rfl)) pa_nil)))) pa_nil)))) pss_nil)
    (pss_one (ps_ret (pe_tup (pa_cons (pe_tup (pa_cons pe_str (pa_cons (pv 1) (pa_cons (pv 0) pa_nil)))) pa_nil))))))), ?_⟩
  obtain ⟨a, xs, rfl, h1, h2⟩ := dp_tup hd
  have lx : xs.length = ps.length := by rw [dpa_len h2, encs_len]
  have empty : ∀ H1 p, Same H H1 → H1 p = none → repd ps c = [] → Q (.ref p) (upd H1 p (.tup [])) := fun H1 p R np e => by
    refine q _ _ (R.trans (same_new np _)) ?_
    rw [e]
    exact .tup (SqT.of upd_same) .nil
  refine ⟨_, rfl, rfl, _, rfl, ?_⟩
  by_cases c0 : c = 0
  · refine iteE (by rw [c0]) ⟨by show 0 ≤ sizeLine; decide, fun p np => ?_⟩
    exact empty H p (Same.refl _) np (by rw [c0]; rfl)
  refine iteD (fun e => c0 (by cases e; rfl)) ⟨_, rfl, by show 0 ≤ sizeLine; decide, fun p np => ?_⟩
  have R1 := same_new np (.tup [])
  refine ⟨encL ps, .tuple [], dp_mono R1 _ _ hd, .tup (SqT.of upd_same) .nil, shaped_encL hw (by omega), by decide, _, rfl, ?_⟩
  by_cases ce : ps = []
  · refine iteB (by rw [eqv_nil, ce]; rfl) ⟨by show 0 ≤ sizeLine; decide, fun p2 np2 => ?_⟩
    refine empty _ p2 R1 np2 ?_
    rw [ce]; unfold repd
    simp [c0]
  refine iteN (by rw [eqv_nil]; cases ps <;> first | exact absurd rfl ce | rfl) ⟨_, rfl, rfl, _, rfl, ?_⟩
  by_cases c1 : c = 1
  · refine iteE (by rw [c1]) ⟨_, rfl, q _ _ R1 ?_⟩
    rw [c1]
    exact dp_mono R1 _ _ hd
  refine iteD (fun e => c1 (by cases e; rfl)) ⟨_, rfl, a, _, rfl, .inr (sqT_mono R1 h1), rfl, _, rfl, ?_⟩
  -- the last way
  have last : repd ps c = [.rep c ps] → (∀ p2, (upd H p (.tup [])) p2 = none → ∀ p3, (upd (upd H p (.tup [])) p2 (.tup [.str ("repeat" : Str), .int c, .ref a])) p3 = none →
      Q (.ref p3) (upd (upd (upd H p (.tup [])) p2 (.tup [.str ("repeat" : Str), .int c, .ref a])) p3 (.tup [.ref p2]))) := fun e p2 np2 p3 np3 => by
    have R2 := same_new np2 (.tup [.str ("repeat" : Str), .int c, .ref a])
    have R3 := same_new np3 (.tup [.ref p2])
    refine q _ _ (R1.trans (R2.trans R3)) ?_
    rw [e]
    refine .tup (SqT.of upd_same) (.cons (dp_mono R3 _ _ (of_rep (SqT.of upd_same) (dp_mono (R1.trans R2) _ _ hd))) .nil)
  by_cases cl : ps.length = 1
  · obtain ⟨pc, rfl⟩ : ∃ pc, ps = [pc] := by
      match ps, cl with
      | [pc], _ => exact ⟨pc, rfl⟩
    simp only [encs] at h2
    obtain ⟨x, z, rfl, k1, k2⟩ := dpa_cons h2
    cases dpa_nil k2
    obtain ⟨b, ys, rfl, k3⟩ := at_any k1
    refine iteE rfl ⟨_, rfl, a, _, _, _, rfl, rfl, sqT_mono R1 h1, at0, b, _, _, _, rfl, rfl, sqT_mono R1 k3, at0, rfl, _, rfl, ?_⟩
    by_cases ct : tag pc = ("silence" : Str)
    · obtain ⟨n, rfl⟩ := tag_sil ct
      obtain ⟨b', e1, k4⟩ := at_sil k1
      cases e1
      refine iteE rfl ⟨_, rfl, a, _, _, _, rfl, rfl, sqT_mono R1 h1, at0, b, _, _, _, rfl, rfl, sqT_mono R1 k4, rfl, _, rfl, _, _, rfl, rfl, .inr ⟨by omega, by omega⟩, by show 2 ≤ sizeLine; decide, fun p2 np2 => ?_⟩
      refine ⟨by show 1 ≤ sizeLine; decide, fun p3 np3 => ?_⟩
      have R2 := same_new np2 (.tup [.str ("silence" : Str), .int (n * c)])
      have R3 := same_new np3 (.tup [.ref p2])
      refine q _ _ (R1.trans (R2.trans R3)) ?_
      have e : repd [.sil n] c = [.sil (n * c)] := by unfold repd; simp [c0, c1]
      rw [e]
      refine .tup (SqT.of upd_same) (.cons (dp_mono R3 _ _ (of_sil (SqT.of upd_same))) .nil)
    refine iteD (vne ct) ⟨_, rfl, a, _, rfl, .inr (sqT_mono R1 h1), rfl, _, rfl, iteE rfl ⟨_, rfl, a, _, _, _, rfl, rfl, sqT_mono R1 h1, at0, b, _, _, _, rfl, rfl, sqT_mono R1 k3, at0, rfl, _, rfl, ?_⟩⟩
    by_cases cr : tag pc = ("repeat" : Str)
    · obtain ⟨n, qs, rfl⟩ := tag_rep cr
      obtain ⟨b', pq, e1, k4, k5⟩ := at_rep k1
      cases e1
      refine iteE rfl ⟨_, rfl, a, _, _, _, rfl, rfl, sqT_mono R1 h1, at0, b, _, _, _, rfl, rfl, sqT_mono R1 k4, rfl, _, rfl, _, _, rfl, rfl, .inr ⟨by omega, by omega⟩, _, rfl, a, _, _, _, rfl, rfl, sqT_mono R1 h1, at0, b, _, _, _, rfl, rfl, sqT_mono R1 k4, rfl, by show 3 ≤ sizeLine; decide, fun p2 np2 => ?_⟩
      refine ⟨by show 1 ≤ sizeLine; decide, fun p3 np3 => ?_⟩
      have R2 := same_new np2 (.tup [.str ("repeat" : Str), .int (n * c), pq])
      have R3 := same_new np3 (.tup [.ref p2])
      refine q _ _ (R1.trans (R2.trans R3)) ?_
      have e : repd [.rep n qs] c = [.rep (n * c) qs] := by unfold repd; simp [c0, c1]
      rw [e]
      refine .tup (SqT.of upd_same) (.cons (dp_mono R3 _ _ (of_rep (SqT.of upd_same) (dp_mono (R1.trans R2) _ _ k5))) .nil)
    refine iteD (vne cr) ⟨_, rfl, _, rfl, by show 3 ≤ sizeLine; decide, fun p2 np2 => ⟨by show 1 ≤ sizeLine; decide, fun p3 np3 => ?_⟩⟩
    refine last ?_ p2 np2 p3 np3
    unfold repd
    rw [if_neg c0, if_neg c1]
    cases pc <;> first | exact absurd rfl ct | exact absurd rfl cr | rfl
  · have cl' : ¬ V.int ((xs.length : Nat) : Int) = V.int 1 := fun e => cl (by
      have e2 : ((xs.length : Nat) : Int) = 1 := by injection e
      omega)
    refine iteD cl' ⟨_, rfl, a, _, rfl, .inr (sqT_mono R1 h1), rfl, _, rfl, iteD cl' ⟨_, rfl, _, rfl, by show 3 ≤ sizeLine; decide, fun p2 np2 => ⟨by show 1 ≤ sizeLine; decide, fun p3 np3 => ?_⟩⟩⟩
    refine last ?_ p2 np2 p3 np3
    unfold repd
    rw [if_neg c0, if_neg c1]
    match ps, ce, cl with
    | [], ce, _ => exact absurd rfl ce
    | [p], _, cl => exact absurd rfl cl
    | p :: p' :: r, _, _ => cases p <;> rfl
end
end K46
/-! part W4 -/
set_option Elab.async false
set_option linter.all false
set_option maxRecDepth 100000
set_option maxHeartbeats 2000000
namespace K46
open PySem PySem.Spec PyProof.Rows L2 K46R
abbrev sCutR : Stmt := top 27
abbrev sCutP : Stmt := top 28
abbrev sCutPs : Stmt := top 29
def spCutPs (K : PySem.W.Frag) (n : Nat) : Sp := fun vs H Q _ => ∃ (S : Snd) (m : Nat) (ps : List Pc) (a b : Int) (v : V), vs = [v, .int a, .int b] ∧ Dp K H v (encL ps) ∧ wfs S m ps ∧ tlen ps ≤ BIG ∧ (deps ps < n ∧ deps ps ≤ 9) ∧ a ≤ b ∧
  ∀ H' r, Same H H' → Dp K H' r (encL (cutGo ps 0 [] a b)) → Q r H'
def spCutP (K : PySem.W.Frag) (n : Nat) : Sp := fun vs H Q _ => ∃ (S : Snd) (m : Nat) (p : Pc) (a b : Int) (v : V), vs = [v, .int a, .int b] ∧ Dp K H v (enc p) ∧ wf S m p ∧ plen p ≤ BIG ∧ (dep p < n ∧ dep p ≤ 9) ∧ (0 ≤ a ∧ a ≤ b ∧ b ≤ plen p) ∧
  ∀ H' r, Same H H' → Dp K H' r (encL (cutP p a b)) → Q r H'
def spCutR (K : PySem.W.Frag) (n : Nat) : Sp := fun vs H Q _ => ∃ (S : Snd) (m : Nat) (k : Int) (ps : List Pc) (a b : Int) (v : V), vs = [v, .int a, .int b] ∧ Dp K H v (enc (.rep k ps)) ∧ wf S m (.rep k ps) ∧ plen (.rep k ps) ≤ BIG ∧ (dep (.rep k ps) < n ∧ dep (.rep k ps) ≤ 9) ∧ (0 ≤ a ∧ a < b ∧ b ≤ plen (.rep k ps)) ∧
  ∀ H' r, Same H H' → Dp K H' r (encL (cutP (.rep k ps) a b)) → Q r H'
theorem cut_two (xs : List Int) {f l : Int} (h0 : 0 ≤ f) (h1 : f ≤ l) (h2 : l ≤ xs.length) : cutV (xs.map V.int) (some f) (some l) = ((xs.drop f.toNat).take (l.toNat - f.toNat)).map V.int := by
  have e1 : HT.sIx (xs.map V.int).length 0 (some f) = f.toNat := by
    simp only [HT.sIx, List.length_map]
    rw [if_neg (by omega)]; omega
  have e2 : HT.sIx (xs.map V.int).length (xs.map V.int).length (some l) = l.toNat := by
    simp only [HT.sIx, List.length_map]
    rw [if_neg (by omega)]; omega
  unfold cutV
  rw [e1, e2, ← List.map_drop, ← List.map_take]
section
variable {P : Program} {w : World} {K : PySem.W.Frag} {mg : Str → Option Value} {base : Heap} {f : Addr} {fd : FuncData}
theorem scCutPs : FnScope ["pieces", "start", "end", "found", "place", "piece", "size", "first", "last"] ["pieces", "start", "end"] (defScope sCutPs) := ⟨rfl, rfl, rfl, by decide +kernel, rfl, by decide +kernel, by decide +kernel⟩
theorem ok_cutPs {n : Nat} {g1 g2 g3 : Addr} {d1 d2 d3 : FuncData} (F : Fun K "cut_pieces" "cut_pieces" sCutPs f fd)
    (D1 : Df K mg "piece_length" sPlen ["piece"] g1 d1) (G1 : FnOk P w K mg base CX0 (2 * n) g1 d1 ["piece"] (spPlen K n))
    (D2 : Df K mg "cut_piece" sCutP ["piece", "start", "end"] g2 d2) (G2 : FnOk P w K mg base CX0 (3 * n + 3) g2 d2 ["piece", "start", "end"] (spCutP K n))
    (D3 : Df K mg "both_pieces" sBoth ["first", "second"] g3 d3) (G3 : FnOk P w K mg base CX0 2 g3 d3 ["first", "second"] (spBoth K))
    (mx : mg "max" = none) (mn : mg "min" = none) :
    FnOk P w K mg base CX0 (3 * n + 4) f fd ["pieces", "start", "end"] (spCutPs K n) := by
  refine F.ok scCutPs (fun vs H Q E h => ?_) (fun cdv A outer s H vs Q E hr h => ?_)
  · obtain ⟨S, m, ps, a, b, v, rfl, _⟩ := h
    rfl
  obtain ⟨S, m, ps, a, b, v, rfl, hd, hw, hb, hdp, hab, q⟩ := h
  have hb' : tlen ps ≤ 1000000 := hb
  refine ⟨_, pss_cons (ps_set (i := 3) scCutPs.nd rfl (Or.inl rfl) (pe_tup pa_nil)) (pss_cons (ps_set (i := 4) scCutPs.nd rfl (Or.inl rfl) pe_int)
    (pss_cons (ps_for PassesOwn.never rfl (pi_tup (pv 0)) (pg_name (i := 5) scCutPs.nd rfl (Or.inl rfl))
      (pss_cons (ps_set (i := 6) scCutPs.nd rfl (Or.inl rfl) (pe_call G1 (hr.mono (by omega)) rfl D1.mg D1.fn.kp D1.bd .nil pass0 (pa_cons (pv 5) pa_nil)))
      (pss_cons (ps_par (i := 7) (j := 8) rfl scCutPs.nd rfl rfl (by decide) rfl rfl
          (pa_cons (pe_callB (call_max2 rfl) (by rfl) mx (by decide +kernel) (pa_cons (pe_op op_sub (pv 1) (pv 4)) (pa_cons pe_int pa_nil)))
          (pa_cons (pe_callB (call_min2 rfl) (by rfl) mn (by decide +kernel) (pa_cons (pe_op op_sub (pv 2) (pv 4)) (pa_cons (pv 6) pa_nil))) pa_nil)) (by rfl))
      (pss_cons (ps_if (pt_cmpR op_lt (pv 7) (pv 8) (nomark _))
          (pss_one (ps_set (i := 3) scCutPs.nd rfl (Or.inl rfl) (pe_call G3 (hr.mono (by omega)) rfl D3.mg D3.fn.kp D3.bd .nil pass0 (pa_cons (pv 3) (pa_cons
            (pe_call G2 hr rfl D2.mg D2.fn.kp D2.bd .nil pass0 (pa_cons (pv 5) (pa_cons (pv 7) (pa_cons (pv 8) pa_nil)))) pa_nil))))) pss_nil)
      (pss_one (ps_aug (i := 4) scCutPs.nd rfl (Or.inl rfl) (pv 6) ip_add))))))
    (pss_one (ps_ret (pv 3))))), ?_⟩
  obtain ⟨pa, xs, rfl, h1, h2⟩ := dp_tup hd
  have hl : xs.length = ps.length := by rw [dpa_len h2, encs_len]
  refine ⟨by show 0 ≤ sizeLine; decide, fun p0 np0 => ?_⟩
  have R0 := same_new np0 (.tup [])
  refine ⟨_, rfl, pa, rfl, ⟨_, sqT_mono R0 h1⟩, for_tup (K := K) (a := pa) (xs := xs) (fun i σ H' => ∃ (fv : V) (o5 o6 o7 o8 : Option V),
      σ = [some (.ref pa), some (.int a), some (.int b), some fv, some (.int (tlen (ps.take i))), o5, o6, o7, o8] ∧ Same H H' ∧ Dp K H' fv (encL (cutGo (ps.take i) 0 [] a b)))
    ⟨_, none, none, none, none, rfl, R0, .tup (SqT.of upd_same) .nil⟩ (fun i σ H' _ ⟨_, _, _, _, _, _, R, _⟩ => sqT_mono R h1) ?_ ?_⟩
  · rintro i x σ H1 hi ⟨fv, o5, o6, o7, o8, rfl, R1, hf⟩
    have hi' : i < ps.length := by rw [← hl]; exact (List.getElem?_eq_some_iff.mp hi).1
    have hp : ps[i]? = some ps[i] := List.getElem?_eq_getElem hi'
    obtain ⟨y, q1, q2⟩ := dpa_at h2 (by rw [encs_get, hp]; rfl)
    rw [hi] at q1
    cases q1
    obtain ⟨w1, w2, w3⟩ := at_wf hw hp
    obtain ⟨f1, f2, f3⟩ := found_ok i hw hab
    have hsn : cutGo (ps.take (i + 1)) 0 [] a b = cstep (cutGo (ps.take i) 0 [] a b) ps[i] (0 + tlen (ps.take i)) a b := by
      rw [take_snoc ps hp, cutGo_snoc]
    have htl : tlen (ps.take (i + 1)) = tlen (ps.take i) + plen ps[i] := by
      rw [take_snoc ps hp, tlen_app]; simp [tlen]
    rw [Int.zero_add] at hsn
    generalize ps[i] = p at *
    generalize hpl : tlen (ps.take i) = pl at *
    generalize cutGo (ps.take i) 0 [] a b = fo at *
    have q3 := dp_mono R1 _ _ q2
    refine ⟨_, rfl, S, m, p, _, rfl, q3, w1, by omega, by omega, fun H2 R2 => ?_⟩
    refine ⟨_, rfl, _, rfl, _, _, rfl, rfl, _, _, rfl, _, rfl, _, rfl, _, _, rfl, rfl, _, rfl, _, _, rfl, ?_⟩
    refine ⟨_, _, rfl, _, rfl, _, rfl, _, _, rfl, rfl, _, rfl, ?_⟩
    have P := plen_sem p w1
    have cf : 0 ≤ cF pl a := by unfold cF; split <;> omega
    have cl : cL p pl b ≤ plen p := by unfold cL; split <;> omega
    by_cases c : cF pl a < cL p pl b
    · refine iteE c ?_
      obtain ⟨t1, t2, t3⟩ := cutP_len w1 cf (Int.le_of_lt c) cl
      refine ⟨_, rfl, _, rfl, _, rfl, _, rfl, S, m, p, cF pl a, cL p pl b, _, rfl, dp_mono R2 _ _ q3, w1, by omega, by omega, ⟨cf, Int.le_of_lt c, cl⟩, fun H3 r R3 hr3 => ?_⟩
      refine ⟨S, m, fo, cutP p (cF pl a) (cL p pl b), _, _, rfl, dp_mono (R2.trans R3) _ _ hf, hr3, f1, t1, by omega, by omega, by omega, by omega, fun H4 r4 R4 hr4 => ?_⟩
      refine ⟨_, rfl, _, rfl, _, _, rfl, rfl, ?_⟩
      refine ⟨r4, _, _, _, _, by rw [htl]; rfl, R1.trans (R2.trans (R3.trans R4)), ?_⟩
      rw [hsn]
      unfold cstep
      rw [if_pos c]
      exact hr4
    · refine iteD c ?_
      refine ⟨_, rfl, _, rfl, _, _, rfl, rfl, ?_⟩
      refine ⟨fv, _, _, _, _, by rw [htl]; rfl, R1.trans R2, ?_⟩
      rw [hsn]
      unfold cstep
      rw [if_neg c]
      exact dp_mono R2 _ _ hf
  · rintro σ H1 ⟨fv, o5, o6, o7, o8, rfl, R1, hf⟩
    rw [hl, List.take_length] at hf
    exact ⟨_, rfl, q H1 fv R1 hf⟩
theorem scCutP : FnScope ["piece", "start", "end"] ["piece", "start", "end"] (defScope sCutP) := ⟨rfl, rfl, rfl, by decide +kernel, rfl, by decide +kernel, by decide +kernel⟩
theorem ok_cutP {n : Nat} {g1 : Addr} {d1 : FuncData} (F : Fun K "cut_piece" "cut_piece" sCutP f fd)
    (D1 : Df K mg "cut_repeat" sCutR ["piece", "start", "end"] g1 d1) (G1 : FnOk P w K mg base CX0 (3 * n + 2) g1 d1 ["piece", "start", "end"] (spCutR K n)) :
    FnOk P w K mg base CX0 (3 * n + 3) f fd ["piece", "start", "end"] (spCutP K n) := by
  refine F.ok scCutP (fun vs H Q E h => ?_) (fun cdv A outer s H vs Q E hr h => ?_)
  · obtain ⟨S, m, ps, a, b, v, rfl, _⟩ := h
    rfl
  obtain ⟨S, m, p, a, b, v, rfl, hd, hw, hb, hdp, hab, q⟩ := h
  refine ⟨_, pss_cons (ps_if (pt_cmpR op_eq (pv 1) (pv 2) (nomark _)) (pss_one (ps_ret (pe_tup pa_nil))) pss_nil)
    (pss_cons (ps_if (pt_cmpR op_eq (pe_ix ix_tup (pv 0) pe_int (fun _ _ => rfl)) pe_str (nomark _)) (pss_one (ps_ret (pe_tup (pa_cons (pe_tup (pa_cons pe_str (pa_cons (pe_ix ix_tup (pv 0) pe_int (fun _ _ => rfl))
        (pa_cons (pe_op op_add (pe_ix ix_tup (pv 0) pe_int (fun _ _ => rfl)) (pv 1)) (pa_cons (pe_op op_add (pe_ix ix_tup (pv 0) pe_int (fun _ _ => rfl)) (pv 2)) (pa_cons (pe_ix ix_tup (pv 0) pe_int (fun _ _ => rfl)) pa_nil)))))) pa_nil)))) pss_nil)
    (pss_cons (ps_if (pt_cmpR op_eq (pe_ix ix_tup (pv 0) pe_int (fun _ _ => rfl)) pe_str (nomark _)) (pss_one (ps_ret (pe_tup (pa_cons (pe_tup (pa_cons pe_str (pa_cons (pe_op op_sub (pv 2) (pv 1)) pa_nil))) pa_nil)))) pss_nil)
    (pss_cons (ps_if (pt_cmpR op_eq (pe_ix ix_tup (pv 0) pe_int (fun _ _ => rfl)) pe_str (nomark _)) (pss_one (ps_ret (pe_tup (pa_cons (pe_tup (pa_cons pe_str (pa_cons (pe_slice sl_tupA (pe_ix ix_tup (pv 0) pe_int (fun _ _ => rfl)) (po_some (pv 1)) (po_some (pv 2)))
        (pa_cons (pe_ix ix_tup (pv 0) pe_int (fun _ _ => rfl)) pa_nil)))) pa_nil)))) pss_nil)
    (pss_one (ps_ret (pe_call G1 hr rfl D1.mg D1.fn.kp D1.bd .nil pass0 (pa_cons (pv 0) (pa_cons (pv 1) (pa_cons (pv 2) pa_nil))))))))), ?_⟩
  refine ⟨_, rfl, _, rfl, rfl, _, rfl, ?_⟩
  by_cases c : a = b
  · refine iteE (by rw [c]) ⟨by show 0 ≤ sizeLine; decide, fun p0 np0 => ?_⟩
    refine q _ _ (same_new np0 _) ?_
    have e : cutP p a b = [] := by cases p <;> simp [cutP, c]
    rw [e]
    exact .tup (SqT.of upd_same) .nil
  have cv : ¬ V.int a = V.int b := fun e => c (by injection e)
  obtain ⟨pa, xs, rfl, h0⟩ := at_any hd
  refine iteD cv ⟨_, rfl, pa, _, _, _, rfl, rfl, h0, at0, rfl, _, rfl, ?_⟩
  cases p with
  | part nm s0 e0 g0 =>
    obtain ⟨pa', gv, e1, h1, h2⟩ := at_part hd
    cases e1
    refine iteE rfl ⟨_, rfl, pa, _, _, _, rfl, rfl, h1, rfl, _, rfl, pa, _, _, _, rfl, rfl, h1, rfl, _, rfl, _, _, rfl, rfl, _, rfl, pa, _, _, _, rfl, rfl, h1, rfl, _, rfl, _, _, rfl, rfl, _, rfl, pa, _, _, _, rfl, rfl, h1, rfl, by show 5 ≤ sizeLine; decide, fun p1 np1 => ?_⟩
    refine ⟨by show 1 ≤ sizeLine; decide, fun p2 np2 => ?_⟩
    have R1 := same_new np1 (.tup [.str ("part" : Str), .str nm, .int (s0 + a), .int (s0 + b), gv])
    have R2 := same_new np2 (.tup [.ref p1])
    refine q _ _ (R1.trans R2) ?_
    simp only [cutP, c, if_false, encL, encs]
    exact .tup (SqT.of upd_same) (.cons (dp_mono R2 _ _ (of_part (SqT.of upd_same) (dp_mono R1 _ _ h2))) .nil)
  | sil n0 =>
    refine iteD sil_part ⟨_, rfl, pa, _, _, _, rfl, rfl, h0, at0, rfl, _, rfl, iteE rfl ⟨_, rfl, _, rfl, _, _, rfl, rfl, by show 2 ≤ sizeLine; decide, fun p1 np1 => ?_⟩⟩
    refine ⟨by show 1 ≤ sizeLine; decide, fun p2 np2 => ?_⟩
    have R1 := same_new np1 (.tup [.str ("silence" : Str), .int (b - a)])
    have R2 := same_new np2 (.tup [.ref p1])
    refine q _ _ (R1.trans R2) ?_
    simp only [cutP, c, if_false, encL, encs]
    exact .tup (SqT.of upd_same) (.cons (dp_mono R2 _ _ (of_sil (SqT.of upd_same))) .nil)
  | sam ns g0 =>
    obtain ⟨pa', pb, gv, e1, h1, h2, h3⟩ := at_sam hd
    cases e1
    refine iteD sam_part ⟨_, rfl, pa, _, _, _, rfl, rfl, h0, at0, rfl, _, rfl, iteD sam_sil ⟨_, rfl, pa, _, _, _, rfl, rfl, h0, at0, rfl, _, rfl, iteE rfl ⟨_, rfl, pa, _, _, _, rfl, rfl, h1, rfl, _, rfl, _, rfl, _, rfl, _, rfl, ?_⟩⟩⟩
    refine slA h2 fun H1 p1 R1 k1 => ?_
    simp only [plen] at hab
    rw [cut_two ns hab.1 hab.2.1 hab.2.2] at k1
    refine ⟨_, rfl, pa, _, _, _, rfl, rfl, sqT_mono R1 h1, rfl, by show 3 ≤ sizeLine; decide, fun p2 np2 => ?_⟩
    refine ⟨by show 1 ≤ sizeLine; decide, fun p3 np3 => ?_⟩
    have R2 := same_new np2 (.tup [.str ("samples" : Str), .ref p1, gv])
    have R3 := same_new np3 (.tup [.ref p2])
    refine q _ _ (R1.trans (R2.trans R3)) ?_
    simp only [cutP, c, if_false, encL, encs]
    exact .tup (SqT.of upd_same) (.cons (dp_mono R3 _ _ (of_sam (SqT.of upd_same) (sqT_mono R2 k1) (dp_mono (R1.trans R2) _ _ h3))) .nil)
  | rep k ps =>
    refine iteD rep_part ⟨_, rfl, pa, _, _, _, rfl, rfl, h0, at0, rfl, _, rfl, iteD rep_sil ⟨_, rfl, pa, _, _, _, rfl, rfl, h0, at0, rfl, _, rfl, iteD rep_sam ?_⟩⟩
    exact ⟨_, rfl, _, rfl, _, rfl, S, m, k, ps, a, b, _, rfl, hd, hw, hb, hdp, ⟨hab.1, by omega, hab.2.2⟩, q⟩
theorem scCutR : FnScope ["piece", "start", "end", "inner", "size", "first", "last", "found"] ["piece", "start", "end"] (defScope sCutR) := ⟨rfl, rfl, rfl, by decide +kernel, rfl, by decide +kernel, by decide +kernel⟩
theorem ok_cutR {n : Nat} {g1 g2 g3 g4 : Addr} {d1 d2 d3 d4 : FuncData} (F : Fun K "cut_repeat" "cut_repeat" sCutR f fd)
    (D1 : Df K mg "total_length" sTlen ["pieces"] g1 d1) (G1 : FnOk P w K mg base CX0 (2 * n + 1) g1 d1 ["pieces"] (spTlen K n))
    (D2 : Df K mg "cut_pieces" sCutPs ["pieces", "start", "end"] g2 d2) (G2 : FnOk P w K mg base CX0 (3 * n + 4) g2 d2 ["pieces", "start", "end"] (spCutPs K n))
    (D3 : Df K mg "both_pieces" sBoth ["first", "second"] g3 d3) (G3 : FnOk P w K mg base CX0 2 g3 d3 ["first", "second"] (spBoth K))
    (D4 : Df K mg "repeated_pieces" sRepd ["pieces", "count"] g4 d4) (G4 : FnOk P w K mg base CX0 1 g4 d4 ["pieces", "count"] (spRepd K)) :
    FnOk P w K mg base CX0 (3 * (n + 1) + 2) f fd ["piece", "start", "end"] (spCutR K (n + 1)) := by
  refine F.ok scCutR (fun vs H Q E h => ?_) (fun cdv A outer s H vs Q E hr h => ?_)
  · obtain ⟨S, m, k, ps, a, b, v, rfl, _⟩ := h
    rfl
  obtain ⟨S, m, k, ps, a, b, v, rfl, hd, hw, hb, hdp, hab, q⟩ := h
  have hr1 : Room (2 * n + 1) _ := hr.mono (by omega)
  have hr2 : Room (3 * n + 4) _ := hr.mono (by omega)
  have hr3 : Room 2 _ := hr.mono (by omega)
  have hr4 : Room 1 _ := hr.mono (by omega)
  obtain ⟨c0, c1, c2⟩ := cutP_len hw hab.1 (Int.le_of_lt hab.2.1) hab.2.2
  obtain ⟨w1, w2, w3⟩ := hw
  have hp := tlen_pos ps w3 w2
  have hm2 : tlen ps ≤ k * tlen ps := by
    have : 1 * tlen ps ≤ k * tlen ps := Int.mul_le_mul_of_nonneg_right (by omega) (by omega)
    omega
  simp only [plen] at hb hab
  simp only [dep] at hdp
  have hb' : k * tlen ps ≤ 1000000 := hb
  refine ⟨_, pss_cons (ps_set (i := 3) scCutR.nd rfl (Or.inl rfl) (pe_ix ix_tup (pv 0) pe_int (fun _ _ => rfl)))
    (pss_cons (ps_set (i := 4) scCutR.nd rfl (Or.inl rfl) (pe_call G1 hr1 rfl D1.mg D1.fn.kp D1.bd .nil pass0 (pa_cons (pv 3) pa_nil)))
    (pss_cons (ps_par (i := 5) (j := 6) rfl scCutR.nd rfl rfl (by decide) rfl rfl (pa_cons (pe_op op_fdiv (pv 1) (pv 4)) (pa_cons (pe_op op_fdiv (pv 2) (pv 4)) pa_nil)) (by rfl))
    (pss_cons (ps_if (pt_cmpR op_eq (pv 5) (pv 6) (nomark _)) (pss_one (ps_ret (pe_call G2 hr2 rfl D2.mg D2.fn.kp D2.bd .nil pass0 (pa_cons (pv 3)
        (pa_cons (pe_op op_sub (pv 1) (pe_op op_mul (pv 5) (pv 4))) (pa_cons (pe_op op_sub (pv 2) (pe_op op_mul (pv 5) (pv 4))) pa_nil)))))) pss_nil)
    (pss_cons (ps_set (i := 7) scCutR.nd rfl (Or.inl rfl) (pe_tup pa_nil))
    (pss_cons (ps_if (pt_cmpR op_gt (pv 1) (pe_op op_mul (pv 5) (pv 4)) (nomark _))
        (pss_cons (ps_set (i := 7) scCutR.nd rfl (Or.inl rfl) (pe_call G2 hr2 rfl D2.mg D2.fn.kp D2.bd .nil pass0 (pa_cons (pv 3) (pa_cons (pe_op op_sub (pv 1) (pe_op op_mul (pv 5) (pv 4))) (pa_cons (pv 4) pa_nil)))))
        (pss_one (ps_aug (i := 5) scCutR.nd rfl (Or.inl rfl) pe_int ip_add))) pss_nil)
    (pss_cons (ps_set (i := 7) scCutR.nd rfl (Or.inl rfl) (pe_call G3 hr3 rfl D3.mg D3.fn.kp D3.bd .nil pass0 (pa_cons (pv 7)
        (pa_cons (pe_call G4 hr4 rfl D4.mg D4.fn.kp D4.bd .nil pass0 (pa_cons (pv 3) (pa_cons (pe_op op_sub (pv 6) (pv 5)) pa_nil))) pa_nil))))
    (pss_one (ps_ret (pe_call G3 hr3 rfl D3.mg D3.fn.kp D3.bd .nil pass0 (pa_cons (pv 7)
        (pa_cons (pe_call G2 hr2 rfl D2.mg D2.fn.kp D2.bd .nil pass0 (pa_cons (pv 3) (pa_cons pe_int (pa_cons (pe_op op_sub (pv 2) (pe_op op_mul (pv 6) (pv 4))) pa_nil)))) pa_nil))))))))))), ?_⟩
  obtain ⟨pa, pi, rfl, h1, h2⟩ := at_rep hd
  generalize hN : tlen ps = N at *
  have n30 : 0 < N ∧ N < 1073741824 := ⟨by omega, by omega⟩
  have mul1 : ∀ x : Int, CMul x N := fun x => .inr ⟨by omega, by omega⟩
  refine ⟨_, rfl, pa, _, _, _, rfl, rfl, h1, rfl, ?_⟩
  refine ⟨_, rfl, S, m, ps, _, rfl, h2, w3, by omega, by omega, fun H1 R1 => ?_⟩
  rw [hN]
  refine ⟨_, rfl, _, rfl, _, _, rfl, rfl, n30, _, rfl, _, rfl, _, _, rfl, rfl, n30, _, _, rfl, ?_⟩
  have h2' := dp_mono R1 _ _ h2
  have f1 := Int.emod_nonneg a (b := N) (by omega)
  have f2 := Int.emod_lt_of_pos a hp
  have l1 := Int.emod_nonneg b (b := N) (by omega)
  have l2 := Int.emod_lt_of_pos b hp
  have es := sub_div a N
  have el := sub_div b N
  have qq : a / N ≤ b / N := Int.ediv_le_ediv hp (by omega)
  have lb : b / N ≤ b := Int.ediv_le_self _ (by omega)
  have fq : 0 ≤ a / N := Int.ediv_nonneg hab.1 (by omega)
  have hne : ¬ a = b := by omega
  refine ⟨_, rfl, _, rfl, rfl, _, rfl, ?_⟩
  by_cases c : a / N = b / N
  · refine iteE (congrArg V.int c) ⟨_, rfl, _, rfl, _, rfl, _, rfl, _, _, rfl, rfl, mul1 _, _, _, rfl, rfl, _, rfl, _, rfl, _, rfl, _, _, rfl, rfl, mul1 _, _, _, rfl, rfl, ?_⟩
    refine ⟨S, m, ps, a - a / N * N, b - a / N * N, _, rfl, h2', w3, by omega, by omega, by omega, fun H2 r R2 hr2 => q H2 r (R1.trans R2) ?_⟩
    simp only [cutP, hne, if_false, hN, c, if_true]
    rw [c] at hr2
    exact hr2
  refine iteD (fun e => c (by injection e)) ⟨by show 0 ≤ sizeLine; decide, fun p0 np0 => ?_⟩
  have R2 := R1.trans (same_new np0 (.tup []))
  have k3 := cutGo_ok ps 0 [] 0 (b - b / N * N) w3 trivial (by omega)
  refine ⟨_, rfl, _, rfl, _, rfl, _, _, rfl, rfl, mul1 _, _, _, rfl, rfl, _, rfl, ?_⟩
  have Z := fun (c : Int) => repd_ok (S := S) (m := m) (ps := ps) (c := c)
  by_cases c3 : a / N * N < a
  · have k2 := cutGo_ok ps 0 [] (a - a / N * N) N w3 trivial (by omega)
    have eq : cutP (.rep k ps) a b = both (both (cutGo ps 0 [] (a - a / N * N) N) (repd ps (b / N - (a / N + 1)))) (cutGo ps 0 [] 0 (b - b / N * N)) := by
      simp only [cutP, hne, if_false, hN, c]
      rw [if_pos (show a > a / N * N by omega)]
    have Zr := Z (b / N - (a / N + 1)) w3 (by omega)
    have B1 := both_ok k2.1 Zr.1
    have T1 := tlen_both k2.1 Zr.1
    have T2 := tlen_both B1.1 k3.1
    have t1 := tlen_nn _ k2.1
    have t2 := tlen_nn _ Zr.1
    have t3 := tlen_nn _ k3.1
    rw [eq] at c2
    have d0 : deps ([] : List Pc) = 0 := by simp [deps]
    have dk2 := k2.2.2
    have dk3 := k3.2.2
    have dz := Zr.2.2.1
    have db := B1.2.2.1
    rw [d0] at dk2 dk3
    refine iteE c3 ⟨_, rfl, _, rfl, _, rfl, _, rfl, _, _, rfl, rfl, mul1 _, _, _, rfl, rfl, _, rfl, S, m, ps, a - a / N * N, N, _, rfl, dp_mono R2 _ _ h2, w3, by omega, by omega, by omega, fun H3 r3 R3 hr3 => ?_⟩
    refine ⟨_, rfl, _, _, rfl, rfl, ?_⟩
    refine ⟨_, rfl, _, rfl, _, rfl, _, rfl, _, _, rfl, rfl, S, m, ps, b / N - (a / N + 1), _, rfl, dp_mono (R2.trans R3) _ _ h2, w3, by omega, ⟨by omega, by omega⟩, fun H4 r4 R4 hr4 => ?_⟩
    refine ⟨S, m, _, _, _, _, rfl, dp_mono R4 _ _ hr3, hr4, k2.1, Zr.1, by omega, by omega, by omega, by omega, fun H5 r5 R5 hr5 => ?_⟩
    refine ⟨_, rfl, _, rfl, _, rfl, _, rfl, _, rfl, _, _, rfl, rfl, mul1 _, _, _, rfl, rfl, S, m, ps, 0, b - b / N * N, _, rfl, dp_mono (R2.trans (R3.trans (R4.trans R5))) _ _ h2, w3, by omega, by omega, by omega, fun H6 r6 R6 hr6 => ?_⟩
    refine ⟨S, m, _, _, _, _, rfl, dp_mono R6 _ _ hr5, hr6, B1.1, k3.1, by omega, by omega, by omega, by omega, fun H7 r7 R7 hr7 => ?_⟩
    refine q H7 r7 (R2.trans (R3.trans (R4.trans (R5.trans (R6.trans R7))))) ?_
    rw [eq]; exact hr7
  · have eq : cutP (.rep k ps) a b = both (both [] (repd ps (b / N - a / N))) (cutGo ps 0 [] 0 (b - b / N * N)) := by
      simp only [cutP, hne, if_false, hN, c]
      rw [if_neg (show ¬ a > a / N * N by omega)]
    have Zr := Z (b / N - a / N) w3 (by omega)
    have B1 := both_ok (a := []) (S := S) (m := m) trivial Zr.1
    have T1 := tlen_both (a := []) (S := S) (m := m) trivial Zr.1
    have T2 := tlen_both B1.1 k3.1
    have t2 := tlen_nn _ Zr.1
    have t3 := tlen_nn _ k3.1
    rw [eq] at c2
    have d0 : deps ([] : List Pc) = 0 := by simp [deps]
    have tl0 : tlen ([] : List Pc) = 0 := by simp [tlen]
    have dk3 := k3.2.2
    have dz := Zr.2.2.1
    have db := B1.2.2.1
    rw [d0] at dk3 db
    rw [tl0] at T1
    refine iteD c3 ?_
    refine ⟨_, rfl, _, rfl, _, rfl, _, rfl, _, _, rfl, rfl, S, m, ps, b / N - a / N, _, rfl, dp_mono R2 _ _ h2, w3, by omega, ⟨by omega, by omega⟩, fun H4 r4 R4 hr4 => ?_⟩
    refine ⟨S, m, [], _, _, _, rfl, .tup (SqT.of (R4 _ _ upd_same)) .nil, hr4, trivial, Zr.1, by omega, by omega, by omega, by omega, fun H5 r5 R5 hr5 => ?_⟩
    refine ⟨_, rfl, _, rfl, _, rfl, _, rfl, _, rfl, _, _, rfl, rfl, mul1 _, _, _, rfl, rfl, S, m, ps, 0, b - b / N * N, _, rfl, dp_mono (R2.trans (R4.trans R5)) _ _ h2, w3, by omega, by omega, by omega, fun H6 r6 R6 hr6 => ?_⟩
    refine ⟨S, m, _, _, _, _, rfl, dp_mono R6 _ _ hr5, hr6, B1.1, k3.1, by omega, by omega, by omega, by omega, fun H7 r7 R7 hr7 => ?_⟩
    refine q H7 r7 (R2.trans (R4.trans (R5.trans (R6.trans R7)))) ?_
    rw [eq]; exact hr7
end
end K46
/-! part W5 -/
set_option Elab.async false
set_option linter.all false
set_option maxRecDepth 100000
set_option maxHeartbeats 2000000
namespace K46
open PySem PySem.Spec PyProof.Rows L2 K46R
abbrev sGain : Stmt := top 30
abbrev sGs : Stmt := top 31
/-! data without lists -/
mutual
def noList : PyData → Bool
  | .list _ => false
  | .tuple ds => noListAll ds
  | _ => true
def noListAll : List PyData → Bool
  | [] => true
  | d :: ds => noList d && noListAll ds
end
section
variable {K : PySem.W.Frag} {H : Hp} {D : Addr} {o : HO}
theorem sqT_keep (hD : ∀ xs, ¬ Rd H D (.tup xs)) {a : Addr} {xs : List V} (h : SqT K H a xs) : SqT K (upd H D o) a xs := by
  rcases h with h | h
  · have ne : a ≠ D := fun e => hD xs (by rw [← e]; exact h)
    refine .inl ?_
    unfold Rd
    rw [upd_ne ne]; exact h
  · exact .inr h
mutual
theorem dp_keep (hD : ∀ xs, ¬ Rd H D (.tup xs)) : ∀ (d : PyData) (v : V), noList d = true → Dp K H v d → Dp K (upd H D o) v d
  | .none, v, n, h => by cases h; exact .non
  | .bool b, v, n, h => by cases h; exact .bl b
  | .int i, v, n, h => by cases h; exact .int i
  | .str i, v, n, h => by cases h; exact .str i
  | .list ds, v, n, h => by simp [noList] at n
  | .tuple ds, v, n, h => by
    obtain ⟨a, xs, rfl, h1, h2⟩ := dp_tup h
    exact .tup (sqT_keep hD h1) (dpa_keep hD ds xs (by simpa [noList] using n) h2)
  | .dict ds, v, n, h => by cases h
theorem dpa_keep (hD : ∀ xs, ¬ Rd H D (.tup xs)) : ∀ (ds : List PyData) (xs : List V), noListAll ds = true → DpAll K H xs ds → DpAll K (upd H D o) xs ds
  | [], xs, n, h => by rw [dpa_nil h]; exact .nil
  | d :: ds, xs, n, h => by
    obtain ⟨x, r, rfl, h1, h2⟩ := dpa_cons h
    simp only [noListAll, Bool.and_eq_true] at n
    exact .cons (dp_keep hD d x n.1 h1) (dpa_keep hD ds r n.2 h2)
end
theorem lst_nt {ys : List V} (h : H D = some (.lst ys)) : ∀ xs, ¬ Rd H D (.tup xs) := by
  rintro xs (h' | ⟨o, h'⟩) <;> rw [h] at h' <;> cases h'
end
theorem nl_ints : ∀ ns : List Int, noListAll (ns.map .int) = true
  | [] => rfl
  | n :: ns => by simp [noListAll, noList, nl_ints ns]
theorem nl_gs : ∀ g : Gs, noListAll (g.map encX) = true
  | [] => rfl
  | x :: g => by simp [noListAll, noList, encX, nl_gs g]
theorem nl_encG (g : Gs) : noList (encG g) = true := by simp only [encG, noList]; exact nl_gs g
theorem nl_encs (ps : List Pc) : noListAll (encs ps) = true := by
  refine Pc.rec_1 (motive_1 := fun p => noList (enc p) = true) (motive_2 := fun ps => noListAll (encs ps) = true) ?_ ?_ ?_ ?_ ?_ ?_ ps
  · intro nm s e g; simp [enc, noList, noListAll, nl_encG]
  · intro n; simp [enc, noList, noListAll]
  · intro xs g; simp [enc, noList, noListAll, nl_encG, nl_ints]
  · intro n ps ih; simp [enc, noList, noListAll, ih]
  · rfl
  · intro p ps h1 h2; simp [encs, noListAll, h1, h2]
theorem gain_map (x : Int × Int) : ∀ ps : List Pc, gainPs x ps = ps.map (gainP x)
  | [] => rfl
  | p :: ps => by simp [gainPs, gain_map x ps]
theorem gain_take (x : Int × Int) (ps : List Pc) {i : Nat} {p : Pc} (h : ps[i]? = some p) : gainPs x (ps.take (i + 1)) = gainPs x (ps.take i) ++ [gainP x p] := by
  rw [gain_map, gain_map, ← take_map_snoc _ _ h]
theorem encG_snoc (g : Gs) (x : Int × Int) : encG (g ++ [x]) = .tuple (g.map encX ++ [encX x]) := by simp [encG]
def spGain (K : PySem.W.Frag) (n : Nat) : Sp := fun vs H Q _ => ∃ (S : Snd) (m : Nat) (ps : List Pc) (x : Int × Int) (v u : V), vs = [v, u] ∧ Dp K H v (encL ps) ∧ Dp K H u (encX x) ∧ wfs S m ps ∧ m ≤ 1000 ∧ tlen ps ≤ BIG ∧ deps ps < n ∧
  ∀ H' r, Same H H' → Dp K H' r (encL (gainPs x ps)) → Q r H'
def spGs (K : PySem.W.Frag) : Sp := fun vs H Q _ => ∃ (m : Nat) (v0 : Int) (g : Gs) (u : V), vs = [.int v0, u] ∧ Dp K H u (encG g) ∧ gok m g ∧ Q (.int (gainS v0 g)) H
section
variable {P : Program} {w : World} {K : PySem.W.Frag} {mg : Str → Option Value} {base : Heap} {f : Addr} {fd : FuncData}
theorem scGain : FnScope ["pieces", "gain", "found", "piece", "rest", "gains"] ["pieces", "gain"] (defScope sGain) := ⟨rfl, rfl, rfl, by decide +kernel, rfl, by decide +kernel, by decide +kernel⟩
theorem ok_gain {n : Nat} {g1 : Addr} {d1 : FuncData} (F : Fun K "gained_pieces" "gained_pieces" sGain f fd)
    (D1 : Df K mg "gained_pieces" sGain ["pieces", "gain"] g1 d1) (G1 : FnOk P w K mg base CX0 n g1 d1 ["pieces", "gain"] (spGain K n)) (mt : mg "tuple" = none) :
    FnOk P w K mg base CX0 (n + 1) f fd ["pieces", "gain"] (spGain K (n + 1)) := by
  refine F.ok scGain (fun vs H Q E h => ?_) (fun cdv A outer s H vs Q E hr h => ?_)
  · obtain ⟨S, m, ps, x, v, u, rfl, _⟩ := h
    rfl
  obtain ⟨S, m, ps, x, v, u, rfl, hd, hx, hw, hm, hb, hdp, q⟩ := h
  have hb' : tlen ps ≤ 1000000 := hb
  have sz : (3000000 : Nat) ≤ sizeLine := by decide
  refine ⟨_, pss_cons (ps_set (i := 2) scGain.nd rfl (Or.inl rfl) (pe_lst pa_nil))
    (pss_cons (ps_for PassesOwn.never rfl (pi_tup (pv 0)) (pg_name (i := 3) scGain.nd rfl (Or.inl rfl))
      (pss_one (ps_if (pt_cmpR op_eq (pe_ix ix_tup (pv 3) pe_int (fun _ _ => rfl)) pe_str (nomark _))
        (pss_one (ps_expr (pe_bm PySem.F.plainAttrs_list PySem.F.slot_list_append PySem.F.type_list_append mt_append (pv 2) (pa_cons (pe_tup (pa_cons pe_str (pa_cons (pe_ix ix_tup (pv 3) pe_int (fun _ _ => rfl))
          (pa_cons (pe_call G1 hr rfl D1.mg D1.fn.kp D1.bd .nil pass0 (pa_cons (pe_ix ix_tup (pv 3) pe_int (fun _ _ => rfl)) (pa_cons (pv 1) pa_nil))) pa_nil)))) pa_nil))))
        (pss_one (ps_if (pt_cmpR op_eq (pe_ix ix_tup (pv 3) pe_int (fun _ _ => rfl)) pe_str (nomark _))
          (pss_one (ps_expr (pe_bm PySem.F.plainAttrs_list PySem.F.slot_list_append PySem.F.type_list_append mt_append (pv 2) (pa_cons (pv 3) pa_nil))))
          (pss_cons (ps_asg (pv 3) (pg_star rfl (pgs_cons (pg_name (i := 4) scGain.nd rfl (Or.inl rfl)) (pgs_cons (pg_name (i := 5) scGain.nd rfl (Or.inl rfl)) pgs_nil))))
          (pss_one (ps_expr (pe_bm PySem.F.plainAttrs_list PySem.F.slot_list_append PySem.F.type_list_append mt_append (pv 2) (pa_cons
            (pe_op op_catA (pe_callTy call_tuple_of (by rfl) mt (by decide +kernel) (pa_cons (pv 4) pa_nil)) (pe_tup (pa_cons (pe_op op_catA (pv 5) (pe_tup (pa_cons (pv 1) pa_nil))) pa_nil))) pa_nil))))))))))
    (pss_one (ps_ret (pe_callTy call_tuple_of (by rfl) mt (by decide +kernel) (pa_cons (pv 2) pa_nil))))), ?_⟩
  obtain ⟨pa, xs, rfl, h1, h2⟩ := dp_tup hd
  have hl : xs.length = ps.length := by rw [dpa_len h2, encs_len]
  have hl2 := len_tlen ps hw
  refine ⟨by show 0 ≤ sizeLine; decide, fun D hD => ?_⟩
  refine ⟨_, rfl, pa, rfl, ⟨_, sqT_mono (same_new hD _) h1⟩, for_tup (K := K) (a := pa) (xs := xs) (fun i σ H' => ∃ (o3 o4 o5 : Option V) (ys : List V),
      σ = [some (.ref pa), some u, some (.ref D), o3, o4, o5] ∧ Same H H' ∧ H' D = some (.lst ys) ∧ DpAll K H' ys (encs (gainPs x (ps.take i))))
    ⟨none, none, none, [], rfl, same_new hD _, upd_same, .nil⟩ (fun i σ H' _ ⟨_, _, _, _, _, R, _⟩ => sqT_mono R h1) ?_ ?_⟩
  · rintro i z σ H1 hi ⟨o3, o4, o5, ys, rfl, R1, hD1, hy⟩
    have hi' : i < ps.length := by rw [← hl]; exact (List.getElem?_eq_some_iff.mp hi).1
    have hp : ps[i]? = some ps[i] := List.getElem?_eq_getElem hi'
    obtain ⟨y, q1, q2⟩ := dpa_at h2 (by rw [encs_get, hp]; rfl)
    rw [hi] at q1
    cases q1
    obtain ⟨w1, w2, w3⟩ := at_wf hw hp
    have q3 := dp_mono R1 _ _ q2
    have hx1 := dp_mono R1 _ _ hx
    have ly : ys.length = i := by
      rw [dpa_len hy, encs_len, gain_map, List.length_map, List.length_take]; omega
    have lz : ys.length < sizeLine := by omega
    have gt := gain_take x ps hp
    generalize ps[i] = p at *
    -- what an append leaves
    have fin : ∀ (H2 : Hp) (r : V) (o3 o4 o5 : Option V), Same H1 H2 → Dp K H2 r (enc (gainP x p)) → ∃ (o3' o4' o5' : Option V) (ys' : List V),
        [some (.ref pa), some u, some (.ref D), o3, o4, o5] = [some (.ref pa), some u, some (.ref D), o3', o4', o5'] ∧ Same H (upd H2 D (.lst (ys ++ [r]))) ∧
        (upd H2 D (.lst (ys ++ [r]))) D = some (.lst ys') ∧ DpAll K (upd H2 D (.lst (ys ++ [r]))) ys' (encs (gainPs x (ps.take (i + 1)))) := fun H2 r o3 o4 o5 R2 hr2 => by
      have nt := lst_nt (R2 _ _ hD1)
      refine ⟨o3, o4, o5, _, rfl, keep_new hD (R1.trans R2), upd_same, ?_⟩
      rw [gt, encs_app]
      refine dpa_app (dpa_keep nt _ _ (nl_encs _) (dpa_mono R2 _ _ hy)) ?_
      have nn := nl_encs [gainP x p]
      simp only [encs] at nn ⊢
      exact dpa_keep nt _ _ nn (.cons hr2 .nil)
    cases p with
    | rep k qs =>
      obtain ⟨b, pv', rfl, k1, k2⟩ := at_rep q3
      obtain ⟨u1, u2, u3⟩ := w1
      have hm2 : tlen qs ≤ k * tlen qs := by
        have : 1 * tlen qs ≤ k * tlen qs := Int.mul_le_mul_of_nonneg_right (by omega) (tlen_nn qs u3)
        omega
      simp only [plen] at w3
      simp only [dep] at w2
      refine ⟨_, rfl, b, _, _, _, rfl, rfl, k1, rfl, rfl, _, rfl, iteE rfl ?_⟩
      refine ⟨_, rfl, .inl ⟨rfl, _, SqL.of hD1⟩, _, rfl, b, _, _, _, rfl, rfl, k1, rfl, _, rfl, b, _, _, _, rfl, rfl, k1, rfl, _, rfl, S, m, qs, x, _, _, rfl, k2, hx1, u3, hm, by omega, by omega, fun H2 r R2 hr2 => ?_⟩
      refine ⟨by show 3 ≤ sizeLine; decide, fun p1 np1 => ?_⟩
      have R3 := same_new np1 (.tup [.str ("repeat" : Str), .int k, r])
      refine ⟨D, _, _, rfl, rfl, R3 _ _ (R2 _ _ hD1), lz, ?_⟩
      exact fin _ (.ref p1) _ _ _ (R2.trans R3) (of_rep (SqT.of upd_same) (dp_mono R3 _ _ hr2))
    | sil k =>
      obtain ⟨b, rfl, k1⟩ := at_sil q3
      refine ⟨_, rfl, b, _, _, _, rfl, rfl, k1, rfl, rfl, _, rfl, iteD sil_rep ⟨_, rfl, b, _, _, _, rfl, rfl, k1, rfl, rfl, _, rfl, iteE rfl ?_⟩⟩
      refine ⟨_, rfl, .inl ⟨rfl, _, SqL.of hD1⟩, _, rfl, D, _, _, rfl, rfl, hD1, lz, ?_⟩
      exact fin H1 (.ref b) _ _ _ (Same.refl _) q3
    | part nm s0 e0 g0 =>
      obtain ⟨b, gv, rfl, k1, k2⟩ := at_part q3
      obtain ⟨pg, gs, rfl, k3, k4⟩ := dp_tup k2
      have lg : gs.length ≤ 1000 := by rw [dpa_len k4, List.length_map]; have := w1.2.2.2.2.1; omega
      refine ⟨_, rfl, b, _, _, _, rfl, rfl, k1, rfl, rfl, _, rfl, iteD part_rep ⟨_, rfl, b, _, _, _, rfl, rfl, k1, rfl, rfl, _, rfl, iteD part_sil ?_⟩⟩
      refine ⟨_, rfl, b, [.str ("part" : Str), .str nm, .int s0, .int e0], _, rfl, k1, fun D2 hD2 => ⟨_, _, rfl, _, _, rfl, rfl, ?_⟩⟩
      have R2 := same_new hD2 (.lst [.str ("part" : Str), .str nm, .int s0, .int e0])
      refine ⟨_, rfl, .inl ⟨rfl, _, SqL.of (R2 _ _ hD1)⟩, _, rfl, D2, _, rfl, .inl ⟨SqL.of upd_same, fun p1 np1 => ?_⟩⟩
      have R3 := same_new np1 (.tup [.str ("part" : Str), .str nm, .int s0, .int e0])
      refine ⟨_, rfl, _, rfl, by show 1 ≤ sizeLine; decide, fun p2 np2 => ?_⟩
      have R4 := same_new np2 (.tup [u])
      have R24 := R2.trans (R3.trans R4)
      refine catA (sqT_mono R24 k3) (SqT.of upd_same) (by simp only [List.length_cons, List.length_nil]; omega) fun H5 p5 R5 h5 => ?_
      refine ⟨by show 1 ≤ sizeLine; decide, fun p6 np6 => ?_⟩
      have R6 := same_new np6 (.tup [.ref p5])
      refine catA (sqT_mono R6 (sqT_mono R5 (sqT_mono R4 (SqT.of upd_same)))) (SqT.of upd_same) (by simp only [List.length_cons, List.length_nil]; omega) fun H7 p7 R7 h7 => ?_
      have RA := R24.trans (R5.trans (R6.trans R7))
      refine ⟨D, _, _, rfl, rfl, RA _ _ hD1, lz, ?_⟩
      refine fin _ (.ref p7) _ _ _ RA ?_
      simp only [gainP]
      refine of_part h7 ?_
      rw [encG_snoc]
      refine .tup (sqT_mono (R6.trans R7) h5) (dpa_app (dpa_mono RA _ _ k4) (.cons (dp_mono RA _ _ hx1) .nil))
    | sam ns g0 =>
      obtain ⟨b, c, gv, rfl, k1, k5, k2⟩ := at_sam q3
      obtain ⟨pg, gs, rfl, k3, k4⟩ := dp_tup k2
      have lg : gs.length ≤ 1000 := by rw [dpa_len k4, List.length_map]; have := w1.2.1; omega
      refine ⟨_, rfl, b, _, _, _, rfl, rfl, k1, rfl, rfl, _, rfl, iteD sam_rep ⟨_, rfl, b, _, _, _, rfl, rfl, k1, rfl, rfl, _, rfl, iteD sam_sil ?_⟩⟩
      refine ⟨_, rfl, b, [.str ("samples" : Str), .ref c], _, rfl, k1, fun D2 hD2 => ⟨_, _, rfl, _, _, rfl, rfl, ?_⟩⟩
      have R2 := same_new hD2 (.lst [.str ("samples" : Str), .ref c])
      refine ⟨_, rfl, .inl ⟨rfl, _, SqL.of (R2 _ _ hD1)⟩, _, rfl, D2, _, rfl, .inl ⟨SqL.of upd_same, fun p1 np1 => ?_⟩⟩
      have R3 := same_new np1 (.tup [.str ("samples" : Str), .ref c])
      refine ⟨_, rfl, _, rfl, by show 1 ≤ sizeLine; decide, fun p2 np2 => ?_⟩
      have R4 := same_new np2 (.tup [u])
      have R24 := R2.trans (R3.trans R4)
      refine catA (sqT_mono R24 k3) (SqT.of upd_same) (by simp only [List.length_cons, List.length_nil]; omega) fun H5 p5 R5 h5 => ?_
      refine ⟨by show 1 ≤ sizeLine; decide, fun p6 np6 => ?_⟩
      have R6 := same_new np6 (.tup [.ref p5])
      refine catA (sqT_mono R6 (sqT_mono R5 (sqT_mono R4 (SqT.of upd_same)))) (SqT.of upd_same) (by simp only [List.length_cons, List.length_nil]; omega) fun H7 p7 R7 h7 => ?_
      have RA := R24.trans (R5.trans (R6.trans R7))
      refine ⟨D, _, _, rfl, rfl, RA _ _ hD1, lz, ?_⟩
      refine fin _ (.ref p7) _ _ _ RA ?_
      simp only [gainP]
      refine of_sam h7 (sqT_mono RA k5) ?_
      rw [encG_snoc]
      refine .tup (sqT_mono (R6.trans R7) h5) (dpa_app (dpa_mono RA _ _ k4) (.cons (dp_mono RA _ _ hx1) .nil))
  · rintro σ H1 ⟨o3, o4, o5, ys, rfl, R1, hD1, hy⟩
    rw [hl, List.take_length] at hy
    refine ⟨_, rfl, D, _, rfl, .inl ⟨SqL.of hD1, fun p1 np1 => ?_⟩⟩
    have R2 := same_new np1 (.tup ys)
    exact q _ _ (R1.trans R2) (.tup (SqT.of upd_same) (dpa_mono R2 _ _ hy))
theorem scGs : FnScope ["value", "gains", "top", "bottom"] ["value", "gains"] (defScope sGs) := ⟨rfl, rfl, rfl, by decide +kernel, rfl, by decide +kernel, by decide +kernel⟩
theorem ok_gs (F : Fun K "gained_sample" "gained_sample" sGs f fd) : FnOk P w K mg base CX0 1 f fd ["value", "gains"] (spGs K) := by
  refine F.ok scGs (fun vs H Q E h => ?_) (fun cdv A outer s H vs Q E hr h => ?_)
  · obtain ⟨m, v0, g, u, rfl, _⟩ := h
    rfl
  obtain ⟨m, v0, g, u, rfl, hd, hg, q⟩ := h
  refine ⟨_, pss_cons (ps_for PassesOwn.never rfl (pi_tup (pv 1)) (pg_tup rfl (pgs_cons (pg_name (i := 2) scGs.nd rfl (Or.inl rfl)) (pgs_cons (pg_name (i := 3) scGs.nd rfl (Or.inl rfl)) pgs_nil)))
      (pss_one (ps_set (i := 0) scGs.nd rfl (Or.inl rfl) (pe_op op_fdiv (pe_op op_add (pe_op op_mul (pe_op op_mul pe_int (pv 0)) (pv 2)) (pv 3)) (pe_op op_mul pe_int (pv 3))))))
    (pss_one (ps_ret (pv 0))), ?_⟩
  obtain ⟨pa, xs, rfl, h1, h2⟩ := dp_tup hd
  have hl : xs.length = g.length := by rw [dpa_len h2, List.length_map]
  refine ⟨_, rfl, pa, rfl, ⟨_, h1⟩, for_tup (K := K) (a := pa) (xs := xs) (fun i σ H' => ∃ (o2 o3 : Option V), σ = [some (.int (gainS v0 (g.take i))), some (.ref pa), o2, o3] ∧ H' = H)
    ⟨none, none, rfl, rfl⟩ (fun i σ H' _ ⟨_, _, _, e⟩ => by rw [e]; exact h1) ?_ ?_⟩
  · rintro i z σ H1 hi ⟨o2, o3, rfl, rfl⟩
    have hi' : i < g.length := by rw [← hl]; exact (List.getElem?_eq_some_iff.mp hi).1
    have hp : g[i]? = some g[i] := List.getElem?_eq_getElem hi'
    obtain ⟨y, q1, q2⟩ := dpa_at h2 (d := encX g[i]) (by rw [List.getElem?_map, hp]; rfl)
    rw [hi] at q1
    cases q1
    have hx := hg.2 g[i] (List.getElem_mem hi')
    have gt : gainS v0 (g.take (i + 1)) = g1 (gainS v0 (g.take i)) g[i] := by
      rw [List.take_add_one, hp]; exact gainS_snoc _ _ _
    generalize g[i] = x at *
    obtain ⟨t, b⟩ := x
    obtain ⟨pb, zs, rfl, k1, k2⟩ := dp_tup q2
    have e2 : zs = [t, b].map V.int := dpa_ints k2
    subst e2
    simp only at hx
    refine ⟨pb, _, rfl, k1, rfl, _, _, rfl, _, _, rfl, rfl, ?_⟩
    refine ⟨_, rfl, _, _, rfl, rfl, .inl ⟨by decide, by decide⟩, _, rfl, _, _, rfl, rfl, .inr ⟨by omega, by omega⟩, _, rfl, _, _, rfl, rfl, _, rfl, _, _, rfl, rfl, .inl ⟨by decide, by decide⟩, _, _, rfl, rfl, ⟨by show 0 < 2 * b; omega, by show 2 * b < 1073741824; omega⟩, ?_⟩
    exact ⟨_, _, by rw [gt]; rfl, rfl⟩
  · rintro σ H1 ⟨o2, o3, rfl, rfl⟩
    rw [hl, List.take_length]
    exact ⟨_, rfl, q⟩
end
end K46
/-! part W6 -/
set_option Elab.async false
set_option linter.all false
set_option maxRecDepth 100000
set_option maxHeartbeats 2000000
namespace K46
open PySem PySem.Spec PyProof.Rows L2 K46R
abbrev sNames : Stmt := top 32
abbrev sSam : Stmt := top 33
def nmD (l : List Str) : List (Key × V) := l.map fun s => (Sum.inr s, V.bl true)
theorem nmD_put (l : List Str) (s : Str) : putK (nmD l) (Sum.inr s) (.bl true) = nmD (addN l s) := by
  have e : ((nmD l).any fun kv => decide (kv.1 = (Sum.inr s : Key))) = decide (s ∈ l) := by
    induction l with
    | nil => simp [nmD]
    | cons x l ih =>
      have q : (nmD (x :: l)) = (Sum.inr x, V.bl true) :: nmD l := rfl
      rw [q, List.any_cons, ih]
      by_cases h : x = s
      · subst h; simp
      · have h2 : ¬ (Sum.inr x : Key) = Sum.inr s := fun e => h (by injection e)
        have h3 : ¬ s = x := fun e => h e.symm
        simp [h2, h3]
  unfold putK
  rw [e]
  unfold addN
  by_cases h : s ∈ l
  · rw [if_pos (decide_eq_true h), if_pos h]
    unfold nmD
    rw [List.map_map]
    refine List.map_congr_left fun x _ => ?_
    show (if (Sum.inr x : Key) = Sum.inr s then ((Sum.inr x : Key), V.bl true) else ((Sum.inr x : Key), V.bl true)) = _
    split <;> rfl
  · rw [if_neg (by simp [h]), if_neg h]
    simp [nmD]
theorem nmD_merge : ∀ (l' l : List Str), mergeK (nmD l) (nmD l') = nmD (l'.foldl addN l)
  | [], l => rfl
  | s :: l', l => by
    have q := nmD_merge l' (addN l s)
    rw [← nmD_put] at q
    exact q
theorem nd_ab {l : List Str} (h : l.Nodup) (ha : ∀ x ∈ l, x = sA ∨ x = sB) : l.length ≤ 2 := by
  match l, h, ha with
  | [], _, _ => simp
  | [x], _, _ => simp
  | [x, y], _, _ => simp
  | x :: y :: z :: r, h, ha =>
    simp only [List.nodup_cons, List.mem_cons, not_or] at h
    have a1 := ha x (by simp)
    have a2 := ha y (by simp)
    have a3 := ha z (by simp)
    exfalso
    obtain ⟨⟨h1, h2, _⟩, ⟨h3, _⟩, _⟩ := h
    rcases a1 with rfl | rfl <;> rcases a2 with rfl | rfl <;> rcases a3 with rfl | rfl <;> simp_all
theorem names_small {S : Snd} {m : Nat} {ps : List Pc} {l : List Str} (h : wfs S m ps) (hl : l.Nodup) (ha : ∀ x ∈ l, x = sA ∨ x = sB) :
    (namesGo ps l).Nodup ∧ (∀ x ∈ namesGo ps l, x = sA ∨ x = sB) ∧ (namesGo ps l).length ≤ 2 := by
  have q := names_all ps l
  have n := q.2 hl
  have m' : ∀ x ∈ namesGo ps l, x = sA ∨ x = sB := fun x hx => by
    rcases (q.1 x).mp hx with z | z
    · exact ha x z
    · exact law_ab ps h x z
  exact ⟨n, m', nd_ab n m'⟩
theorem namesGo_snoc (p : Pc) : ∀ (ps : List Pc) (l : List Str), namesGo (ps ++ [p]) l = nameP p (namesGo ps l)
  | [], l => rfl
  | q :: ps, l => by simp only [List.cons_append, namesGo]; exact namesGo_snoc p ps _
theorem names_take {ps : List Pc} {i : Nat} {p : Pc} (h : ps[i]? = some p) : namesGo (ps.take (i + 1)) [] = nameP p (namesGo (ps.take i) []) := by
  rw [take_snoc ps h, namesGo_snoc]
theorem samGo_at {S S' : Snd} {m : Nat} : ∀ {ps : List Pc} {i : Nat} {p : Pc} {j : Int}, wfs S m ps → ps[i]? = some p → tlen (ps.take i) ≤ j → j < tlen (ps.take i) + plen p → samGo S' ps j = samP S' p (j - tlen (ps.take i))
  | [], i, p, j, _, e, _, _ => by simp at e
  | q :: ps, 0, p, j, h, e, h1, h2 => by
    cases e
    simp only [List.take_zero, tlen, Int.zero_add] at h1 h2 ⊢
    simp only [samGo, h2, if_true, Int.sub_zero]
  | q :: ps, i + 1, p, j, h, e, h1, h2 => by
    simp only [List.take_succ_cons, tlen] at h1 h2 ⊢
    have w := wfs_take ps i h.2
    have t := tlen_nn _ w
    have c : ¬ j < plen q := by omega
    simp only [samGo, c, if_false]
    rw [samGo_at (i := i) h.2 e (by omega) (by omega)]
    congr 1; omega
def spNames (K : PySem.W.Frag) (n : Nat) : Sp := fun vs H Q _ => ∃ (S : Snd) (m : Nat) (ps : List Pc) (v : V), vs = [v] ∧ Dp K H v (encL ps) ∧ wfs S m ps ∧ deps ps < n ∧
  ∀ H' p, Same H H' → H p = none → H' p = some (.dK (nmD (namesGo ps []))) → Q (.ref p) H'
/-- the dict of sounds -/
def SndAt (K : PySem.W.Frag) (H : Hp) (sd : Addr) (S : Snd) : Prop := ∃ la lb, H sd = some (.dK [(Sum.inr sA, .ref la), (Sum.inr sB, .ref lb)]) ∧ SqL K H la ((S sA).map V.int) ∧ SqL K H lb ((S sB).map V.int)
def spSam (K : PySem.W.Frag) (n : Nat) : Sp := fun vs H Q _ => ∃ (S : Snd) (m : Nat) (ps : List Pc) (j : Int) (v : V) (sd : Addr), vs = [v, .int j, .ref sd] ∧ Dp K H v (encL ps) ∧ wfs S m ps ∧ tlen ps ≤ BIG ∧ deps ps < n ∧ (0 ≤ j ∧ j < tlen ps) ∧ SndAt K H sd S ∧
  ∀ H', Same H H' → Q (.int (samGo S ps j)) H'
section
variable {P : Program} {w : World} {K : PySem.W.Frag} {mg : Str → Option Value} {base : Heap} {f : Addr} {fd : FuncData}
theorem SndAt.mono {H H' : Hp} {sd : Addr} {S : Snd} (e : Same H H') (h : SndAt K H sd S) : SndAt K H' sd S := by
  obtain ⟨la, lb, h1, h2, h3⟩ := h
  exact ⟨la, lb, e _ _ h1, e.seq h2, e.seq h3⟩
theorem SndAt.get {H : Hp} {sd : Addr} {S : Snd} {nm : Str} (h : SndAt K H sd S) (hn : nm = sA ∨ nm = sB) : ∃ l, DGet H sd (.str nm) (some (.ref l)) ∧ SqL K H l ((S nm).map V.int) := by
  obtain ⟨la, lb, h1, h2, h3⟩ := h
  rcases hn with rfl | rfl
  · exact ⟨la, DGet.k (k := Sum.inr sA) h1, h2⟩
  · have e : valV ([(Sum.inr sA, .ref la), (Sum.inr sB, .ref lb)] : List (Key × V)) (Sum.inr sB) = some (.ref lb) := by
      have ne : ¬ (Sum.inr sA : Key) = Sum.inr sB := fun e => absurd (Sum.inr.inj e) (by decide +kernel)
      rw [valV_neg ne, valV_pos rfl]
    refine ⟨lb, ?_, h3⟩
    have z := DGet.k (k := Sum.inr sB) h1
    rw [e] at z
    exact z
theorem scNames : FnScope ["pieces", "found", "piece"] ["pieces"] (defScope sNames) := ⟨rfl, rfl, rfl, by decide +kernel, rfl, by decide +kernel, by decide +kernel⟩
theorem ok_names {n : Nat} {g1 : Addr} {d1 : FuncData} (F : Fun K "names_in" "names_in" sNames f fd)
    (D1 : Df K mg "names_in" sNames ["pieces"] g1 d1) (G1 : FnOk P w K mg base CX0 n g1 d1 ["pieces"] (spNames K n)) :
    FnOk P w K mg base CX0 (n + 1) f fd ["pieces"] (spNames K (n + 1)) := by
  refine F.ok scNames (fun vs H Q E h => ?_) (fun cdv A outer s H vs Q E hr h => ?_)
  · obtain ⟨S, m, ps, v, rfl, _⟩ := h
    rfl
  obtain ⟨S, m, ps, v, rfl, hd, hw, hdp, q⟩ := h
  have sz : (1000 : Nat) ≤ sizeLine := by decide
  have hu := hu_of hr
  refine ⟨_, pss_cons (ps_set (i := 1) scNames.nd rfl (Or.inl rfl) pe_dnewK)
    (pss_cons (ps_for PassesOwn.never rfl (pi_tup (pv 0)) (pg_name (i := 2) scNames.nd rfl (Or.inl rfl))
      (pss_one (ps_if (pt_cmpR op_eq (pe_ix ix_tup (pv 2) pe_int (fun _ _ => rfl)) pe_str (nomark _))
        (pss_one (ps_dput hu (pv 1) (pe_ix ix_tup (pv 2) pe_int (fun _ _ => rfl)) pe_bl rfl))
        (pss_one (ps_if (pt_cmpR op_eq (pe_ix ix_tup (pv 2) pe_int (fun _ _ => rfl)) pe_str (nomark _))
          (pss_one (ps_expr (pe_bm PySem.F.plainAttrs_dict PySem.F.slot_dict_update PySem.F.type_dict_update mt_update (pv 1)
            (pa_cons (pe_call G1 hr rfl D1.mg D1.fn.kp D1.bd .nil pass0 (pa_cons (pe_ix ix_tup (pv 2) pe_int (fun _ _ => rfl)) pa_nil)) pa_nil)))) pss_nil)))))
    (pss_one (ps_ret (pv 1)))), ?_⟩
  obtain ⟨pa, xs, rfl, h1, h2⟩ := dp_tup hd
  have hl : xs.length = ps.length := by rw [dpa_len h2, encs_len]
  intro D hD
  refine ⟨_, rfl, pa, rfl, ⟨_, sqT_mono (same_new hD _) h1⟩, for_tup (K := K) (a := pa) (xs := xs) (fun i σ H' => ∃ (o2 : Option V),
      σ = [some (.ref pa), some (.ref D), o2] ∧ Same H H' ∧ H' D = some (.dK (nmD (namesGo (ps.take i) []))))
    ⟨none, rfl, same_new hD _, upd_same⟩ (fun i σ H' _ ⟨_, _, R, _⟩ => sqT_mono R h1) ?_ ?_⟩
  · rintro i z σ H1 hi ⟨o2, rfl, R1, hD1⟩
    have hi' : i < ps.length := by rw [← hl]; exact (List.getElem?_eq_some_iff.mp hi).1
    have hp : ps[i]? = some ps[i] := List.getElem?_eq_getElem hi'
    obtain ⟨y, q1, q2⟩ := dpa_at h2 (by rw [encs_get, hp]; rfl)
    rw [hi] at q1
    cases q1
    obtain ⟨w1, w2, w3⟩ := at_wf hw hp
    have q3 := dp_mono R1 _ _ q2
    have gt := names_take hp
    obtain ⟨n1, n2, n3⟩ := names_small (wfs_take ps i hw) List.nodup_nil (fun x hx => by cases hx)
    generalize ps[i] = p at *
    generalize namesGo (ps.take i) [] = l at *
    have ll : (nmD l).length ≤ 2 := by simp only [nmD, List.length_map]; exact n3
    have fin : ∀ (H2 : Hp) (o2 : Option V), Same H1 H2 → ∃ (o2' : Option V), [some (.ref pa), some (.ref D), o2] = [some (.ref pa), some (.ref D), o2'] ∧ Same H (upd H2 D (.dK (nmD (nameP p l)))) ∧
        (upd H2 D (.dK (nmD (nameP p l)))) D = some (.dK (nmD (namesGo (ps.take (i + 1)) []))) := fun H2 o2 R2 =>
      ⟨o2, rfl, keep_new hD (R1.trans R2), by rw [upd_same, gt]⟩
    cases p with
    | rep k qs =>
      obtain ⟨b, pv', rfl, k1, k2⟩ := at_rep q3
      obtain ⟨u1, u2, u3⟩ := w1
      simp only [dep] at w2
      refine ⟨_, rfl, b, _, _, _, rfl, rfl, k1, rfl, rfl, _, rfl, iteD rep_part ⟨_, rfl, b, _, _, _, rfl, rfl, k1, rfl, rfl, _, rfl, iteE rfl ?_⟩⟩
      refine ⟨_, rfl, .inr (.inr (.inl ⟨rfl, .inl ⟨_, hD1⟩⟩)), _, rfl, b, _, _, _, rfl, rfl, k1, rfl, S, m, qs, _, rfl, k2, u3, by omega, fun H2 e R2 ne he => ?_⟩
      obtain ⟨m1, m2, m3⟩ := names_small u3 (l := []) List.nodup_nil (fun x hx => by cases hx)
      have l2 : (nmD (namesGo qs [])).length ≤ 2 := by simp only [nmD, List.length_map]; exact m3
      have nn : ((namesGo qs []).foldl addN l).length ≤ 2 := by
        have z := fold_addN (namesGo qs []) l
        refine nd_ab (z.2 n1) fun x hx => ?_
        rcases (z.1 x).mp hx with z | z
        · exact n2 x z
        · exact m2 x z
      have l3 : (nmD ((namesGo qs []).foldl addN l)).length ≤ 2 := by simp only [nmD, List.length_map]; exact nn
      have hDe : D ≠ e := ne_of_none hD1 ne
      refine ⟨D, e, _, _, rfl, rfl, hDe, R2 _ _ hD1, he, by omega, by rw [nmD_merge]; omega, ?_⟩
      rw [nmD_merge]
      exact fin H2 _ R2
    | part nm s0 e0 g0 =>
      obtain ⟨b, gv, rfl, k1, k2⟩ := at_part q3
      refine ⟨_, rfl, b, _, _, _, rfl, rfl, k1, rfl, rfl, _, rfl, iteE rfl ?_⟩
      refine ⟨_, rfl, _, rfl, b, _, _, _, rfl, rfl, k1, rfl, D, _, rfl, DPut.k (k := Sum.inr nm) hD1 (by omega), ?_⟩
      rw [nmD_put]
      exact fin H1 _ (Same.refl _)
    | sil k =>
      obtain ⟨b, rfl, k1⟩ := at_sil q3
      refine ⟨_, rfl, b, _, _, _, rfl, rfl, k1, rfl, rfl, _, rfl, iteD sil_part ⟨_, rfl, b, _, _, _, rfl, rfl, k1, rfl, rfl, _, rfl, iteD sil_rep ?_⟩⟩
      exact ⟨_, rfl, R1, by rw [gt]; exact hD1⟩
    | sam ns g0 =>
      obtain ⟨b, c, gv, rfl, k1, _⟩ := at_sam q3
      refine ⟨_, rfl, b, _, _, _, rfl, rfl, k1, rfl, rfl, _, rfl, iteD sam_part ⟨_, rfl, b, _, _, _, rfl, rfl, k1, rfl, rfl, _, rfl, iteD sam_rep ?_⟩⟩
      exact ⟨_, rfl, R1, by rw [gt]; exact hD1⟩
  · rintro σ H1 ⟨o2, rfl, R1, hD1⟩
    rw [hl, List.take_length] at hD1
    exact ⟨_, rfl, q H1 D R1 hD hD1⟩
theorem scSam : FnScope ["pieces", "place", "sounds", "piece", "size"] ["pieces", "place", "sounds"] (defScope sSam) := ⟨rfl, rfl, rfl, by decide +kernel, rfl, by decide +kernel, by decide +kernel⟩
theorem ok_sam {n : Nat} {g1 g2 g3 g4 : Addr} {d1 d2 d3 d4 : FuncData} (F : Fun K "sample_of" "sample_of" sSam f fd)
    (D1 : Df K mg "sample_of" sSam ["pieces", "place", "sounds"] g1 d1) (G1 : FnOk P w K mg base CX0 (2 * n + 2) g1 d1 ["pieces", "place", "sounds"] (spSam K n))
    (D2 : Df K mg "piece_length" sPlen ["piece"] g2 d2) (G2 : FnOk P w K mg base CX0 (2 * n + 2) g2 d2 ["piece"] (spPlen K (n + 1)))
    (D3 : Df K mg "total_length" sTlen ["pieces"] g3 d3) (G3 : FnOk P w K mg base CX0 (2 * n + 1) g3 d3 ["pieces"] (spTlen K n))
    (D4 : Df K mg "gained_sample" sGs ["value", "gains"] g4 d4) (G4 : FnOk P w K mg base CX0 1 g4 d4 ["value", "gains"] (spGs K)) :
    FnOk P w K mg base CX0 (2 * (n + 1) + 2) f fd ["pieces", "place", "sounds"] (spSam K (n + 1)) := by
  refine F.ok scSam (fun vs H Q E h => ?_) (fun cdv A outer s H vs Q E hr h => ?_)
  · obtain ⟨S, m, ps, j, v, sd, rfl, _⟩ := h
    rfl
  obtain ⟨S, m, ps, j, v, sd, rfl, hd, hw, hb, hdp, hj, hs, q⟩ := h
  have hb' : tlen ps ≤ 1000000 := hb
  have hu := hu_of hr
  have hr1 : Room (2 * n + 2) _ := hr.mono (by omega)
  have hr3 : Room (2 * n + 1) _ := hr.mono (by omega)
  have hr4 : Room 1 _ := hr.mono (by omega)
  refine ⟨_, pss_cons (ps_for PassesOwn.never rfl (pi_tup (pv 0)) (pg_name (i := 3) scSam.nd rfl (Or.inl rfl))
      (pss_cons (ps_set (i := 4) scSam.nd rfl (Or.inl rfl) (pe_call G2 hr1 rfl D2.mg D2.fn.kp D2.bd .nil pass0 (pa_cons (pv 3) pa_nil)))
      (pss_cons (ps_if (pt_cmpR op_lt (pv 1) (pv 4) (nomark _)) (pss_one ps_break) pss_nil)
      (pss_one (ps_aug (i := 1) scSam.nd rfl (Or.inl rfl) (pv 4) ip_sub)))))
    (pss_cons (ps_if (pt_cmpR op_eq (pe_ix ix_tup (pv 3) pe_int (fun _ _ => rfl)) pe_str (nomark _))
      (pss_one (ps_ret (pe_call G4 hr4 rfl D4.mg D4.fn.kp D4.bd .nil pass0 (pa_cons (pe_ix ix_list (pe_dget hu (pv 2) (pe_ix ix_tup (pv 3) pe_int (fun _ _ => rfl)) (fun _ _ => rfl)) (pe_op op_add (pe_ix ix_tup (pv 3) pe_int (fun _ _ => rfl)) (pv 1)) (fun _ _ => rfl))
        (pa_cons (pe_ix ix_tup (pv 3) pe_int (fun _ _ => rfl)) pa_nil))))) pss_nil)
    (pss_cons (ps_if (pt_cmpR op_eq (pe_ix ix_tup (pv 3) pe_int (fun _ _ => rfl)) pe_str (nomark _)) (pss_one (ps_ret pe_int)) pss_nil)
    (pss_cons (ps_if (pt_cmpR op_eq (pe_ix ix_tup (pv 3) pe_int (fun _ _ => rfl)) pe_str (nomark _))
      (pss_one (ps_ret (pe_call G4 hr4 rfl D4.mg D4.fn.kp D4.bd .nil pass0 (pa_cons (pe_ix ix_tup (pe_ix ix_tup (pv 3) pe_int (fun _ _ => rfl)) (pv 1) (fun _ _ => rfl)) (pa_cons (pe_ix ix_tup (pv 3) pe_int (fun _ _ => rfl)) pa_nil))))) pss_nil)
    (pss_one (ps_ret (pe_call G1 hr1 rfl D1.mg D1.fn.kp D1.bd .nil pass0 (pa_cons (pe_ix ix_tup (pv 3) pe_int (fun _ _ => rfl))
      (pa_cons (pe_op op_mod (pv 1) (pe_call G3 hr3 rfl D3.mg D3.fn.kp D3.bd .nil pass0 (pa_cons (pe_ix ix_tup (pv 3) pe_int (fun _ _ => rfl)) pa_nil))) (pa_cons (pv 2) pa_nil))))))))), ?_⟩
  obtain ⟨pa, xs, rfl, h1, h2⟩ := dp_tup hd
  have hl : xs.length = ps.length := by rw [dpa_len h2, encs_len]
  refine ⟨_, rfl, pa, rfl, ⟨_, h1⟩, for_tup (K := K) (a := pa) (xs := xs) (fun i σ H' => ∃ (o3 o4 : Option V),
      σ = [some (.ref pa), some (.int (j - tlen (ps.take i))), some (.ref sd), o3, o4] ∧ Same H H' ∧ tlen (ps.take i) ≤ j)
    ⟨none, none, by simp [tlen, L2.start], Same.refl _, by simp only [List.take_zero, tlen]; exact hj.1⟩ (fun i σ H' _ ⟨_, _, _, R, _⟩ => sqT_mono R h1) ?_ ?_⟩
  · rintro i z σ H1 hi ⟨o3, o4, rfl, R1, hle⟩
    have hi' : i < ps.length := by rw [← hl]; exact (List.getElem?_eq_some_iff.mp hi).1
    have hp : ps[i]? = some ps[i] := List.getElem?_eq_getElem hi'
    obtain ⟨y, q1, q2⟩ := dpa_at h2 (by rw [encs_get, hp]; rfl)
    rw [hi] at q1
    cases q1
    obtain ⟨w1, w2, w3⟩ := at_wf hw hp
    have q3 := dp_mono R1 _ _ q2
    have sg := fun h => samGo_at (S' := S) (j := j) hw hp hle h
    have htl : tlen (ps.take (i + 1)) = tlen (ps.take i) + plen ps[i] := by
      rw [take_snoc ps hp, tlen_app]; simp [tlen]
    generalize ps[i] = p at *
    generalize tlen (ps.take i) = pl at *
    refine ⟨_, rfl, S, m, p, _, rfl, q3, w1, by omega, by omega, fun H2 R2 => ?_⟩
    refine ⟨_, rfl, _, rfl, _, _, rfl, rfl, _, rfl, ?_⟩
    by_cases c : j - pl < plen p
    · refine iteE c ?_
      have sg := sg (by omega)
      have R12 := R1.trans R2
      have hs2 := hs.mono R12
      have q4 := dp_mono R2 _ _ q3
      cases p with
      | part nm s0 e0 g0 =>
        obtain ⟨b, gv, rfl, k1, k2⟩ := at_part q4
        obtain ⟨a1, a2, a3, a4, a5⟩ := w1
        simp only [plen] at c
        obtain ⟨l, g1, g2⟩ := hs2.get a1
        have e1 : (s0 + (j - pl)).toNat < (S nm).length := by omega
        have at_ : atI ((S nm).map V.int) (s0 + (j - pl)) = some (V.int ((S nm).getD (s0 + (j - pl)).toNat 0)) := by
          have z : (((s0 + (j - pl)).toNat : Nat) : Int) = s0 + (j - pl) := by omega
          rw [← z]
          refine atI_nat ?_
          rw [List.getElem?_map, List.getD_eq_getElem?_getD, Int.toNat_natCast, List.getElem?_eq_getElem e1]; rfl
        refine ⟨_, rfl, b, _, _, _, rfl, rfl, k1, rfl, rfl, _, rfl, iteE rfl ?_⟩
        refine ⟨_, rfl, _, rfl, b, _, _, _, rfl, rfl, k1, rfl, sd, _, rfl, g1, _, rfl, b, _, _, _, rfl, rfl, k1, rfl, _, rfl, _, _, rfl, rfl, l, _, _, _, rfl, rfl, g2, at_, _, rfl, b, _, _, _, rfl, rfl, k1, rfl, ?_⟩
        refine ⟨m, _, g0, _, rfl, k2, a5, ?_⟩
        have z := q H2 R12
        rw [sg] at z
        exact z
      | sil k =>
        obtain ⟨b, rfl, k1⟩ := at_sil q4
        refine ⟨_, rfl, b, _, _, _, rfl, rfl, k1, rfl, rfl, _, rfl, iteD sil_part ⟨_, rfl, b, _, _, _, rfl, rfl, k1, rfl, rfl, _, rfl, iteE rfl ?_⟩⟩
        have z := q H2 R12
        rw [sg] at z
        exact z
      | sam ns g0 =>
        obtain ⟨b, e, gv, rfl, k1, k3, k2⟩ := at_sam q4
        simp only [plen] at c
        have e1 : (j - pl).toNat < ns.length := by omega
        have at_ : atI (ns.map V.int) (j - pl) = some (V.int (ns.getD (j - pl).toNat 0)) := by
          have z : (((j - pl).toNat : Nat) : Int) = j - pl := by omega
          rw [← z]
          refine atI_nat ?_
          rw [List.getElem?_map, List.getD_eq_getElem?_getD, Int.toNat_natCast, List.getElem?_eq_getElem e1]; rfl
        refine ⟨_, rfl, b, _, _, _, rfl, rfl, k1, rfl, rfl, _, rfl, iteD sam_part ⟨_, rfl, b, _, _, _, rfl, rfl, k1, rfl, rfl, _, rfl, iteD sam_sil ⟨_, rfl, b, _, _, _, rfl, rfl, k1, rfl, rfl, _, rfl, iteE rfl ?_⟩⟩⟩
        refine ⟨_, rfl, b, _, _, _, rfl, rfl, k1, rfl, _, rfl, e, _, _, _, rfl, rfl, k3, at_, _, rfl, b, _, _, _, rfl, rfl, k1, rfl, ?_⟩
        refine ⟨m, _, g0, _, rfl, k2, w1.2, ?_⟩
        have z := q H2 R12
        rw [sg] at z
        exact z
      | rep k qs =>
        obtain ⟨b, pq, rfl, k1, k2⟩ := at_rep q4
        obtain ⟨u1, u2, u3⟩ := w1
        have hp' := tlen_pos qs u3 u2
        have hm2 : tlen qs ≤ k * tlen qs := by
          have : 1 * tlen qs ≤ k * tlen qs := Int.mul_le_mul_of_nonneg_right (by omega) (by omega)
          omega
        simp only [plen] at w3
        simp only [dep] at w2
        refine ⟨_, rfl, b, _, _, _, rfl, rfl, k1, rfl, rfl, _, rfl, iteD rep_part ⟨_, rfl, b, _, _, _, rfl, rfl, k1, rfl, rfl, _, rfl, iteD rep_sil ⟨_, rfl, b, _, _, _, rfl, rfl, k1, rfl, rfl, _, rfl, iteD rep_sam ?_⟩⟩⟩
        refine ⟨_, rfl, b, _, _, _, rfl, rfl, k1, rfl, _, rfl, _, rfl, b, _, _, _, rfl, rfl, k1, rfl, S, m, qs, _, rfl, k2, u3, by omega, by omega, fun H3 R3 => ?_⟩
        refine ⟨_, _, rfl, rfl, hp', _, rfl, ?_⟩
        refine ⟨S, m, qs, (j - pl) % tlen qs, _, sd, rfl, dp_mono R3 _ _ k2, u3, by omega, by omega, ⟨Int.emod_nonneg _ (by omega), Int.emod_lt_of_pos _ hp'⟩, hs2.mono R3, fun H4 R4 => ?_⟩
        have z := q H4 (R12.trans (R3.trans R4))
        rw [sg] at z
        exact z
    · refine iteD c ?_
      refine ⟨_, rfl, _, rfl, _, _, rfl, rfl, ?_⟩
      refine ⟨some z, some (.int (plen p)), ?_, R1.trans R2, by omega⟩
      have e : j - pl - plen p = j - (pl + plen p) := by omega
      rw [htl, ← e]
      rfl
  · rintro σ H1 ⟨o3, o4, rfl, R1, hle⟩
    rw [hl, List.take_length] at hle
    omega
end
end K46
/-! part W7 -/
set_option Elab.async false
set_option linter.all false
set_option maxRecDepth 100000
set_option maxHeartbeats 2000000
namespace K46
open PySem PySem.Spec PyProof.Rows L2 K46R
abbrev sIsInt : Stmt := top 8
abbrev sBetw : Stmt := top 9
abbrev sIsRow : Stmt := top 10
abbrev sReqS : Stmt := top 12
abbrev sIsName : Stmt := top 20
/-- what of the module's names stands as built in -/
structure Bt (mg : Str → Option Value) : Prop where
  isi : mg "isinstance" = none
  int : mg "int" = none
  bool : mg "bool" = none
  list : mg "list" = none
  tuple : mg "tuple" = none
  str : mg "str" = none
  len : mg "len" = none
  all : mg "all" = none
  sum : mg "sum" = none
  max : mg "max" = none
  min : mg "min" = none
  sorted : mg "sorted" = none
  range : mg "range" = none
  enum : mg "enumerate" = none
abbrev LET : Str := ("abcdefghijklmnopqrstuvwxyz" : Str)
/-- the module's constants -/
structure Cst (mg : Str → Option Value) : Prop where
  name : ∃ t, mg "MAX_NAME" = some (.int 8 t)
  let_ : ∃ t, mg "LETTERS" = some (.str LET t)
  gain : ∃ t, mg "MAX_GAIN" = some (.int 1000 t)
  pcs : ∃ t, mg "MAX_PIECES" = some (.int 200 t)
  cnt : ∃ t, mg "MAX_COUNT" = some (.int (10 ^ 30) t)
  lng : ∃ t, mg "MAX_LENGTH" = some (.int (10 ^ 40) t)
def spIsInt : Sp := fun vs H Q _ => ∃ (i : Int), vs = [.int i] ∧ Q (.bl true) H
def spBetw : Sp := fun vs H Q _ => ∃ (i l m : Int), vs = [.int i, .int l, .int m] ∧ l ≤ i ∧ i ≤ m ∧ Q (.bl true) H
def spIsRow : Sp := fun vs H Q _ => ∃ (a : Addr) (xs : List V), vs = [.ref a] ∧ H a = some (.lst xs) ∧ ∀ H', Same H H' → Q (.bl true) H'
def spReqS : Sp := fun vs H Q _ => ∃ (a : Addr) (ns : List Int), vs = [.ref a] ∧ H a = some (.lst (ns.map V.int)) ∧ ∀ H', Same H H' → Q .non H'
def spIsName : Sp := fun vs H Q _ => ∃ (nm : Str), vs = [.str nm] ∧ (nm = sA ∨ nm = sB) ∧ ∀ H', Same H H' → Q (.bl true) H'
section
variable {P : Program} {w : World} {K : PySem.W.Frag} {mg : Str → Option Value} {base : Heap} {f : Addr} {fd : FuncData}
theorem scIsInt : FnScope ["value"] ["value"] (defScope sIsInt) := ⟨rfl, rfl, rfl, by decide +kernel, rfl, by decide +kernel, by decide +kernel⟩
theorem ok_isInt (F : Fun K "is_integer" "is_integer" sIsInt f fd) (B : Bt mg) : FnOk P w K mg base CX0 1 f fd ["value"] spIsInt := by
  refine F.ok scIsInt (fun vs H Q E h => ?_) (fun cdv A outer s H vs Q E hr h => ?_)
  · obtain ⟨i, rfl, _⟩ := h
    rfl
  obtain ⟨i, rfl, q⟩ := h
  refine ⟨_, pss_one (ps_ret (pe_and (pe_callB call_isi (by rfl) B.isi (by decide +kernel) (pa_cons (pv 0) (pa_cons (pe_bltn (v := .ty "int") (by rfl) B.int (by decide +kernel) rfl) pa_nil)))
    (pe_one (pe_not (pe_callB call_isi (by rfl) B.isi (by decide +kernel) (pa_cons (pv 0) (pa_cons (pe_bltn (v := .ty "bool") (by rfl) B.bool (by decide +kernel) rfl) pa_nil))))))), ?_⟩
  refine ⟨_, rfl, _, _, _, _, true, rfl, .ty "int", .base (.int i), kit_ty (by decide +kernel), true, rfl, iteT ?_⟩
  exact ⟨_, rfl, _, _, _, _, false, rfl, .ty "bool", .base (.int i), kit_ty (by decide +kernel), false, rfl, q⟩
theorem scBetw : FnScope ["value", "least", "most"] ["value", "least", "most"] (defScope sBetw) := ⟨rfl, rfl, rfl, by decide +kernel, rfl, by decide +kernel, by decide +kernel⟩
theorem ok_betw {g1 : Addr} {d1 : FuncData} (F : Fun K "is_between" "is_between" sBetw f fd) (D1 : Df K mg "is_integer" sIsInt ["value"] g1 d1) (G1 : FnOk P w K mg base CX0 1 g1 d1 ["value"] spIsInt) :
    FnOk P w K mg base CX0 2 f fd ["value", "least", "most"] spBetw := by
  refine F.ok scBetw (fun vs H Q E h => ?_) (fun cdv A outer s H vs Q E hr h => ?_)
  · obtain ⟨i, l, m, rfl, _⟩ := h
    rfl
  obtain ⟨i, l, m, rfl, h1, h2, q⟩ := h
  refine ⟨_, pss_one (ps_ret (pe_and (pe_call G1 hr rfl D1.mg D1.fn.kp D1.bd .nil pass0 (pa_cons (pv 0) pa_nil)) (pe_one (pe_chain op_le op_le (pv 1) (pv 0) (pv 2))))), ?_⟩
  refine ⟨_, rfl, i, rfl, true, rfl, iteT ?_⟩
  refine ⟨_, rfl, _, rfl, _, _, rfl, rfl, true, congrArg V.bl (decide_eq_true h1), iteT ⟨_, rfl, _, _, rfl, rfl, ?_⟩⟩
  have z : Q (V.bl (decide (i ≤ m))) H := by rw [decide_eq_true h2]; exact q
  exact z
theorem scIsRow : FnScope ["value"] ["value"] (defScope sIsRow) := ⟨rfl, rfl, rfl, by decide +kernel, rfl, by decide +kernel, by decide +kernel⟩
theorem ok_isRow (F : Fun K "is_row" "is_row" sIsRow f fd) (B : Bt mg) : FnOk P w K mg base CX0 1 f fd ["value"] spIsRow := by
  refine F.ok scIsRow (fun vs H Q E h => ?_) (fun cdv A outer s H vs Q E hr h => ?_)
  · obtain ⟨a, xs, rfl, _⟩ := h
    rfl
  obtain ⟨a, xs, rfl, h1, q⟩ := h
  refine ⟨_, pss_one (ps_ret (pe_callB call_isiT (by rfl) B.isi (by decide +kernel) (pa_cons (pv 0) (pa_cons (pe_tup (pa_cons (pe_bltn (v := .ty "list") (by rfl) B.list (by decide +kernel) rfl)
    (pa_cons (pe_bltn (v := .ty "tuple") (by rfl) B.tuple (by decide +kernel) rfl) pa_nil))) pa_nil)))), ?_⟩
  refine ⟨_, rfl, by show 2 ≤ sizeLine; decide, fun p np => ?_⟩
  have R := same_new np (.tup [.ty "list", .ty "tuple"])
  exact ⟨_, p, _, _, _, true, rfl, upd_same, .cons (.ty "list") (.cons (.ty "tuple") .nil), .base (.lst (R _ _ h1)), kitAny_cons (b := true) (kit_ty (by decide +kernel)) (fun e => nomatch e) (fun _ => rfl), q _ R⟩
theorem scReqS : FnScope ["sound", "index", "sample"] ["sound"] (defScope sReqS) := ⟨rfl, rfl, rfl, by decide +kernel, rfl, by decide +kernel, by decide +kernel⟩
theorem ok_reqS {g1 g2 : Addr} {d1 d2 : FuncData} (F : Fun K "require_sound" "require_sound" sReqS f fd) (B : Bt mg)
    (D1 : Df K mg "is_row" sIsRow ["value"] g1 d1) (G1 : FnOk P w K mg base CX0 1 g1 d1 ["value"] spIsRow)
    (D2 : Df K mg "is_integer" sIsInt ["value"] g2 d2) (G2 : FnOk P w K mg base CX0 1 g2 d2 ["value"] spIsInt) :
    FnOk P w K mg base CX0 2 f fd ["sound"] spReqS := by
  refine F.ok scReqS (fun vs H Q E h => ?_) (fun cdv A outer s H vs Q E hr h => ?_)
  · obtain ⟨a, ns, rfl, _⟩ := h
    rfl
  obtain ⟨a, ns, rfl, h1, q⟩ := h
  refine ⟨_, pss_cons (ps_if (pt_not (pt_val (pe_call G1 hr rfl D1.mg D1.fn.kp D1.bd .nil pass0 (pa_cons (pv 0) pa_nil)))) (pss_one ps_never) pss_nil)
    (pss_one (ps_for PassesOwn.never rfl (pi_enum (by rfl) B.enum (pa_cons (pv 0) pa_nil)) (pg_tup rfl (pgs_cons (pg_name (i := 1) scReqS.nd rfl (Or.inl rfl)) (pgs_cons (pg_name (i := 2) scReqS.nd rfl (Or.inl rfl)) pgs_nil)))
      (pss_one (ps_if (pt_not (pt_val (pe_call G2 hr rfl D2.mg D2.fn.kp D2.bd .nil pass0 (pa_cons (pv 2) pa_nil)))) (pss_one ps_never) pss_nil)))), ?_⟩
  refine ⟨_, rfl, a, _, rfl, h1, fun H1 R1 => ⟨true, rfl, iteF ?_⟩⟩
  refine ⟨_, rfl, a, _, rfl, SqL.of (R1 _ _ h1), for_it walk_enum (fun i σ H' => ∃ (o1 o2 : Option V), σ = [some (.ref a), o1, o2] ∧ Same H H')
    ⟨none, none, rfl, R1⟩ (fun i σ H' _ ⟨_, _, _, R⟩ => SqL.of (R _ _ h1)) ?_ ?_⟩
  · rintro i x σ H2 H3 hi ⟨o1, o2, rfl, R2⟩ ⟨T, y, z, rfl, nT, rfl, e1, e2⟩
    have e2 : (ns.map V.int)[i]? = some z := e2
    rw [List.getElem?_map] at e2
    obtain ⟨n, en, rfl⟩ := Option.map_eq_some_iff.mp e2
    refine ⟨T, _, rfl, SqT.of upd_same, rfl, _, _, rfl, _, _, rfl, rfl, ?_⟩
    refine ⟨_, rfl, n, rfl, true, rfl, iteF ?_⟩
    exact ⟨_, _, rfl, R2.trans (same_new nT _)⟩
  · rintro σ H2 ⟨o1, o2, rfl, R2⟩
    exact q H2 R2
theorem scIsName : FnScope ["value", "sign"] ["value"] (defScope sIsName) := ⟨rfl, rfl, rfl, by decide +kernel, rfl, by decide +kernel, by decide +kernel⟩
theorem ok_isName (F : Fun K "is_name" "is_name" sIsName f fd) (B : Bt mg) (C : Cst mg) : FnOk P w K mg base CX0 1 f fd ["value"] spIsName := by
  refine F.ok scIsName (fun vs H Q E h => ?_) (fun cdv A outer s H vs Q E hr h => ?_)
  · obtain ⟨i, rfl, _⟩ := h
    rfl
  obtain ⟨nm, rfl, hn, q⟩ := h
  obtain ⟨t1, m1⟩ := C.name
  obtain ⟨t2, m2⟩ := C.let_
  refine ⟨_, pss_one (ps_ret (pe_and (pe_callB call_isi (by rfl) B.isi (by decide +kernel) (pa_cons (pv 0) (pa_cons (pe_bltn (v := .ty "str") (by rfl) B.str (by decide +kernel) rfl) pa_nil)))
    (pe_and (pe_chain op_le op_le pe_int (pe_callB call_len_str (by rfl) B.len (by decide +kernel) (pa_cons (pv 0) pa_nil)) (pe_glob (v := .int 8) rfl m1 ⟨_, rfl⟩))
    (pe_one (pe_callB (cr_all rfl) (by rfl) B.all (by decide +kernel) (pa_cons
      (pe_lc (own := [("sign", 1)]) (g := gName 1) (tt := tYes) rfl scIsName.nd (pi_str (pv 0)) (blkOk_by (N := ["value", "sign"]) (sc := defScope sIsName) (by decide +kernel))
        (fun _ _ _ _ _ => pg_name (i := 1) scIsName.nd rfl (Or.inl rfl)) (fun _ _ _ _ _ => pts_nil)
        (fun _ _ _ _ _ => pe_cmpR op_in_str (pv 1) (pe_glob (v := .str LET) rfl m2 ⟨_, rfl⟩) (by rfl))) pa_nil)))))), ?_⟩
  refine ⟨_, rfl, _, _, _, _, true, rfl, .ty "str", .base (.str nm), kit_ty (by decide +kernel), true, rfl, iteT ?_⟩
  have l1 : nm.length = 1 := by rcases hn with rfl | rfl <;> decide +kernel
  have c1 : ∃ c : Nat, nm.cps.size = 1 ∧ nm.cps[0]? = some c ∧ (Builtin.Str.occurrences LET ⟨#[c]⟩ 0 LET.length 1).isEmpty = false := by
    rcases hn with rfl | rfl
    · exact ⟨97, by decide +kernel, by decide +kernel, by decide +kernel⟩
    · exact ⟨98, by decide +kernel, by decide +kernel, by decide +kernel⟩
  obtain ⟨c, e1, e2, e3⟩ := c1
  have sz : (1 : Nat) ≤ sizeLine := by decide
  refine ⟨_, rfl, nm, rfl, by omega, _, _, rfl, rfl, true, by rw [l1]; rfl, iteT ⟨_, _, rfl, rfl, true, by rw [l1]; rfl, iteT ?_⟩⟩
  refine ⟨_, rfl, nm, rfl, fun D hD => lc_it walk_str (fun i H' => Same H H' ∧ H' D = some (.lst (List.replicate i (.bl true)))) ⟨same_new hD _, upd_same⟩ (fun _ _ _ _ => trivial) ?_ ?_⟩
  · rintro i x H1 H2 hi ⟨R1, hD1⟩ ⟨rfl, c', g1, rfl⟩
    obtain rfl : i = 0 := by omega
    rw [e2] at g1
    cases g1
    refine ⟨rfl, ?_⟩
    refine ⟨_, rfl, _, _, rfl, rfl, _, hD1, by show 0 < sizeLine; decide, keep_new hD R1, ?_⟩
    rw [e3, upd_same]; rfl
  · rintro H1 ⟨R1, hD1⟩
    rw [e1] at hD1
    exact ⟨D, [true], rfl, SqL.of hD1, q H1 R1⟩
end
end K46
/-! part W8 -/
set_option Elab.async false
set_option linter.all false
set_option maxRecDepth 100000
set_option maxHeartbeats 2000000
namespace K46
open PySem PySem.Spec PyProof.Rows L2 K46R
abbrev sClip : Stmt := top 34
abbrev sInit : Stmt := inClass sClip 0
abbrev sPart : Stmt := inClass sClip 1
abbrev sSil : Stmt := inClass sClip 2
abbrev sSams : Stmt := inClass sClip 3
abbrev sLen : Stmt := inClass sClip 4
abbrev sNms : Stmt := inClass sClip 5
abbrev sPcs : Stmt := inClass sClip 6
abbrev sReq : Stmt := inClass sClip 7
abbrev sCut : Stmt := inClass sClip 8
abbrev sGnd : Stmt := inClass sClip 9
abbrev sSmp : Stmt := inClass sClip 10
abbrev sAdd : Stmt := inClass sClip 11
abbrev sMul : Stmt := inClass sClip 12
abbrev sEq : Stmt := inClass sClip 13
/-! a clip's attributes -/
theorem pl_ : ¬ (("own_pieces" : Str) = "own_length") := by decide +kernel
def cf (x : V) (n : Int) : List (Str × V) := putF "own_length" (.int n) (putF "own_pieces" x [])
theorem cf_p (x : V) (n : Int) : (cf x n).lookup ("own_pieces" : Str) = some x := by
  unfold cf
  rw [lookup_putF, if_neg pl_, lookup_putF, if_pos rfl]
theorem cf_l (x : V) (n : Int) : (cf x n).lookup ("own_length" : Str) = some (.int n) := by
  unfold cf
  rw [lookup_putF, if_pos rfl]
theorem cf_no (x : V) (n : Int) {m : Str} (h1 : ¬ m = "own_length") (h2 : ¬ m = "own_pieces") : (cf x n).lookup m = none := by
  unfold cf
  rw [lookup_putF, if_neg h1, lookup_putF, if_neg h2]
  all_goals rfl
def ClipAt (K : PySem.W.Frag) (C : Addr) (H : Hp) (v : V) (ps : List Pc) : Prop := ∃ a dx x, v = .ref a ∧ H a = some (.ins C dx (cf x (tlen ps))) ∧ Dp K H x (encL ps)
/-- pieces that a clip may have here -/
structure Mb (ps : List Pc) : Prop where
  w : ∃ (S : Snd) (m : Nat), wfs S m ps ∧ m ≤ 100
  tl : tlen ps ≤ 2000
  pc : pcnt ps ≤ 200
  dp : deps ps ≤ 9
def abOf (ps : List Pc) : List Str := [sA, sB].filter fun x => decide (x ∈ lawNs ps)
def spInit (K : PySem.W.Frag) (C : Addr) : Sp := fun vs H Q _ => ∃ (x dx : Addr) (v : V) (ps : List Pc), vs = [.ref x, v] ∧ H x = some (.ins C dx []) ∧ Dp K H v (encL ps) ∧ Mb ps ∧
  ∀ H', (∀ b o, H b = some o → b ≠ x → H' b = some o) → H' x = some (.ins C dx (cf v (tlen ps))) → Dp K H' v (encL ps) → Q .non H'
/-- what the walk asks of the class -/
structure CT (K : PySem.W.Frag) (mg : Str → Option Value) (C : Addr) : Prop where
  cl : Cls K C
  nP : NoAttr K C "own_pieces"
  nL : NoAttr K C "own_length"
  mgC : mg "Clip" = some (.ref C)
/-- the making of a clip -/
structure MkC (P : Program) (w : World) (K : PySem.W.Frag) (mg : Str → Option Value) (base : Heap) (C f : Addr) (fd : FuncData) : Prop where
  cls : Mk K C f
  ok : FnOk P w K mg base CX0 22 f fd ["self", "pieces"] (spInit K C)
  bd : Binds K fd ["self", "pieces"] []
/-- a method of the class -/
structure Md (K : PySem.W.Frag) (C : Addr) (x : Str) (f : Addr) (fd : FuncData) (ps : List Str) : Prop where
  mt : Meth K C x f
  bd : Binds K fd ps []
def spSelf (K : PySem.W.Frag) (C : Addr) (R : List Pc → Hp → VK → Prop) : Sp := fun vs H Q _ => ∃ (v : V) (ps : List Pc), vs = [v] ∧ ClipAt K C H v ps ∧ Mb ps ∧ R ps H Q
/-- a new clip comes back -/
def Back (K : PySem.W.Frag) (C : Addr) (ps : List Pc) (H : Hp) (Q : VK) : Prop := Mb ps ∧ ∀ H' r, Same H H' → ClipAt K C H' r ps → Q r H'
def spPart (K : PySem.W.Frag) (C : Addr) : Sp := fun vs H Q _ => ∃ (nm : Str) (s e : Int), vs = [.str nm, .int s, .int e] ∧ (nm = sA ∨ nm = sB) ∧ (0 ≤ s ∧ s ≤ e) ∧ Back K C (made (.part nm s e)) H Q
def spSil (K : PySem.W.Frag) (C : Addr) : Sp := fun vs H Q _ => ∃ (n : Int), vs = [.int n] ∧ (0 ≤ n ∧ n ≤ 1000) ∧ Back K C (made (.sil n)) H Q
def spSams (K : PySem.W.Frag) (C : Addr) : Sp := fun vs H Q _ => ∃ (a : Addr) (ns : List Int), vs = [.ref a] ∧ H a = some (.lst (ns.map V.int)) ∧ ns.length ≤ 1000 ∧ Back K C (made (.sam ns)) H Q
def spLen (K : PySem.W.Frag) (C : Addr) : Sp := spSelf K C fun ps H Q => Q (.int (tlen ps)) H
def spNms (K : PySem.W.Frag) (C : Addr) : Sp := spSelf K C fun ps H Q => ∀ H' p, Same H H' → H' p = some (.lst ((abOf ps).map V.str)) → Q (.ref p) H'
def spPcs (K : PySem.W.Frag) (C : Addr) : Sp := spSelf K C fun ps H Q => ∀ H' p xs, Same H H' → H' p = some (.lst xs) → DpAll K H' xs (encs ps) → Q (.ref p) H'
def spReq (K : PySem.W.Frag) (C : Addr) : Sp := fun vs H Q _ => ∃ (v : V) (ps : List Pc) (a b : Int), vs = [v, .int a, .int b] ∧ ClipAt K C H v ps ∧ (0 ≤ a ∧ a ≤ b ∧ b ≤ tlen ps) ∧ ∀ H', Same H H' → Q .non H'
def spCut (K : PySem.W.Frag) (C : Addr) : Sp := fun vs H Q _ => ∃ (v : V) (ps : List Pc) (a b : Int), vs = [v, .int a, .int b] ∧ ClipAt K C H v ps ∧ Mb ps ∧ (0 ≤ a ∧ a ≤ b ∧ b ≤ tlen ps) ∧ Back K C (cutGo ps 0 [] a b) H Q
def spGnd (K : PySem.W.Frag) (C : Addr) : Sp := fun vs H Q _ => ∃ (v : V) (ps : List Pc) (a b : Int), vs = [v, .int a, .int b] ∧ ClipAt K C H v ps ∧ Mb ps ∧ ((-1000 ≤ a ∧ a ≤ 1000) ∧ 1 ≤ b ∧ b ≤ 1000) ∧ Back K C (gainPs (a, b) ps) H Q
def spSmp (K : PySem.W.Frag) (C : Addr) : Sp := fun vs H Q _ => ∃ (S : Snd) (m : Nat) (v : V) (ps : List Pc) (j : Int) (sd : Addr), vs = [v, .int j, .ref sd] ∧ ClipAt K C H v ps ∧ wfs S m ps ∧ Mb ps ∧ (0 ≤ j ∧ j < tlen ps) ∧ SndAt K H sd S ∧
  ∀ H', Same H H' → Q (.int (samGo S ps j)) H'
def spAdd (K : PySem.W.Frag) (C : Addr) : Sp := fun vs H Q _ => ∃ (S : Snd) (m : Nat) (v u : V) (a b : List Pc), vs = [v, u] ∧ ClipAt K C H v a ∧ ClipAt K C H u b ∧ wfs S m a ∧ wfs S m b ∧ Mb a ∧ Mb b ∧ Back K C (both a b) H Q
def spMul (K : PySem.W.Frag) (C : Addr) : Sp := fun vs H Q _ => ∃ (v : V) (ps : List Pc) (n : Int), vs = [v, .int n] ∧ ClipAt K C H v ps ∧ Mb ps ∧ (0 ≤ n ∧ n ≤ 1000) ∧ Back K C (repd ps n) H Q
def spEq (K : PySem.W.Frag) (C : Addr) : Sp := fun vs H Q _ => ∃ (v u : V) (ps : List Pc), vs = [v, u] ∧ ClipAt K C H v ps ∧ Mb ps ∧ ((ClipAt K C H u ps ∧ Q (.bl true) H) ∨ ((∃ a xs, u = .ref a ∧ H a = some (.lst xs)) ∧ Q (.bl false) H))
theorem ab_of {S : Snd} {m : Nat} {ps : List Pc} (h : wfs S m ps) {ys : List Str} (hp : ys.Perm (namesGo ps [])) (hs : sortedS ys = true) : ys = abOf ps := by
  obtain ⟨n1, n2, n3⟩ := names_small h (l := []) List.nodup_nil (fun x hx => by cases hx)
  have nd : ys.Nodup := hp.nodup_iff.mpr n1
  have ha : ∀ x ∈ ys, x = sA ∨ x = sB := fun x hx => n2 x (hp.mem_iff.mp hx)
  have hm : ∀ x, x ∈ ys ↔ x ∈ lawNs ps := fun x => by
    rw [hp.mem_iff, (names_all ps []).1]; simp
  have ne : sA ≠ sB := by decide +kernel
  have sb : sortedS [sB, sA] = false := by decide +kernel
  unfold abOf
  have l2 := nd_ab nd ha
  match ys, nd, ha, hm, hs, l2 with
  | [], _, _, hm, _, _ =>
    have h1 : sA ∉ lawNs ps := fun q => by cases (hm sA).mpr q
    have h2 : sB ∉ lawNs ps := fun q => by cases (hm sB).mpr q
    simp [h1, h2]
  | [x], _, ha, hm, _, _ =>
    rcases ha x (by simp) with rfl | rfl
    · have h1 : sA ∈ lawNs ps := (hm sA).mp (by simp)
      have h2 : sB ∉ lawNs ps := fun q => by
        have := (hm sB).mpr q
        simp only [List.mem_singleton] at this
        exact ne this.symm
      simp [h1, h2]
    · have h1 : sB ∈ lawNs ps := (hm sB).mp (by simp)
      have h2 : sA ∉ lawNs ps := fun q => by
        have := (hm sA).mpr q
        simp only [List.mem_singleton] at this
        exact ne this
      simp [h1, h2]
  | [x, y], nd, ha, hm, hs, _ =>
    have hxy : x ≠ y := by simpa using nd
    rcases ha x (by simp) with rfl | rfl <;> rcases ha y (by simp) with rfl | rfl
    · exact absurd rfl hxy
    · have h1 : sA ∈ lawNs ps := (hm sA).mp (by simp)
      have h2 : sB ∈ lawNs ps := (hm sB).mp (by simp)
      simp [h1, h2]
    · rw [sb] at hs; cases hs
    · exact absurd rfl hxy
  | x :: y :: z :: r, _, _, _, _, l2 => simp at l2
section
variable {P : Program} {w : World} {K : PySem.W.Frag} {mg : Str → Option Value} {base : Heap} {f C : Addr} {fd : FuncData}
theorem ClipAt.mono {H H' : Hp} {v : V} {ps : List Pc} (e : Same H H') (h : ClipAt K C H v ps) : ClipAt K C H' v ps := by
  obtain ⟨a, dx, x, rfl, h1, h2⟩ := h
  exact ⟨a, dx, x, rfl, e _ _ h1, dp_mono e _ _ h2⟩
theorem ins_nt {H : Hp} {a dx : Addr} {fs : List (Str × V)} (h : H a = some (.ins C dx fs)) : ∀ xs, ¬ Rd H a (.tup xs) := by
  rintro xs (h' | ⟨o, h'⟩) <;> rw [h] at h' <;> cases h'
theorem nl_encL (ps : List Pc) : noList (encL ps) = true := by simp only [encL, noList]; exact nl_encs ps
/-- Clip(v) -/
theorem mk_read {H : Hp} {v : V} {ps : List Pc} {Q : VK} {E : XK} (hv : Dp K H v (encL ps)) (b : Back K C ps H Q) : ∀ x dx, H x = none → H dx = none → dx ≠ x →
    spInit K C (.ref x :: ([v] ++ [])) (upd (upd H dx (.own x)) x (.ins C dx [])) (fun u H2 => u = .non ∧ Q (.ref x) H2) E := fun x dx nx ndx ne => by
  have s0 : Same H (upd (upd H dx (.own x)) x (.ins C dx [])) := fun b o e => by
    rw [upd_ne (ne_of_none e nx), upd_ne (ne_of_none e ndx)]
    exact e
  refine ⟨x, dx, v, ps, rfl, upd_same, dp_mono s0 _ _ hv, b.1, fun H' k1 k2 k3 => ⟨rfl, ?_⟩⟩
  exact b.2 H' _ (fun b o e => k1 b o (s0 b o e) (ne_of_none e nx)) ⟨x, dx, v, rfl, k2, k3⟩
theorem scInit : FnScope ["self", "pieces"] ["self", "pieces"] (defScope sInit) := ⟨rfl, rfl, rfl, by decide +kernel, rfl, by decide +kernel, by decide +kernel⟩
theorem ok_init {dvs : List V} {kws : List (Str × V)} {g1 g2 : Addr} {d1 d2 : FuncData} (F : FunD K "__init__" "Clip.__init__" (defArgs sInit) (defBody sInit) (defScope sInit) dvs kws f fd) (T : CT K mg C) (B : Bt mg) (cs : Cst mg)
    (D1 : Df K mg "total_length" sTlen ["pieces"] g1 d1) (G1 : FnOk P w K mg base CX0 21 g1 d1 ["pieces"] (spTlen K 10))
    (D2 : Df K mg "piece_count" sPcnt ["pieces"] g2 d2) (G2 : FnOk P w K mg base CX0 10 g2 d2 ["pieces"] (spPcnt K 10)) :
    FnOk P w K mg base CX0 22 f fd ["self", "pieces"] (spInit K C) := by
  refine F.ok scInit (fun vs H Q E h => ?_) (fun cdv A outer s H vs Q E hr h => ?_)
  · obtain ⟨x, dx, v, ps, rfl, _⟩ := h
    rfl
  obtain ⟨x, dx, v, ps, rfl, hx, hd, hb, q⟩ := h
  obtain ⟨⟨S, m, hw, hm⟩, tl, pc, dp⟩ := hb
  have hr2 : Room 10 _ := hr.mono (by decide)
  obtain ⟨t1, m1⟩ := cs.lng
  obtain ⟨t2, m2⟩ := cs.pcs
  refine ⟨_, PSs.nox (pss_cons (ps_fld (pv 0) (pe_callTy call_tuple_of (by rfl) B.tuple (by decide +kernel) (pa_cons (pv 1) pa_nil)) rfl)
    (pss_cons (ps_fld (pv 0) (pe_call G1 hr rfl D1.mg D1.fn.kp D1.bd .nil pass0 (pa_cons (pe_fld (pv 0) rfl) pa_nil)) rfl)
    (pss_cons (ps_if (pt_cmpR op_gt (pe_fld (pv 0) rfl) (pe_glob (v := .int (10 ^ 40)) rfl m1 ⟨_, rfl⟩) (nomark _)) (pss_one ps_never) pss_nil)
    (pss_one (ps_if (pt_cmpR op_gt (pe_call G2 hr2 rfl D2.mg D2.fn.kp D2.bd .nil pass0 (pa_cons (pe_fld (pv 0) rfl) pa_nil)) (pe_glob (v := .int 200) rfl m2 ⟨_, rfl⟩) (nomark _)) (pss_one ps_never) pss_nil))))), ?_⟩
  obtain ⟨pa, xs, rfl, h1, h2⟩ := dp_tup hd
  refine ⟨_, rfl, pa, xs, rfl, .inr ⟨h1, ?_⟩⟩
  refine ⟨_, rfl, x, C, dx, [], rfl, hx, T.cl, T.nP, by show 0 < 1000; decide, ?_⟩
  have k1 := dp_keep (o := .ins C dx (putF "own_pieces" (.ref pa) [])) (ins_nt hx) (encL ps) _ (nl_encL ps) hd
  refine ⟨_, rfl, x, C, dx, _, _, rfl, upd_same, T.cl, T.nP, by rw [lookup_putF, if_pos rfl], ?_⟩
  refine ⟨S, m, ps, _, rfl, k1, hw, by show tlen ps ≤ 1000000; omega, by omega, fun H2 R2 => ?_⟩
  have hx2 := R2 _ _ upd_same
  refine ⟨_, rfl, x, C, dx, _, rfl, hx2, T.cl, T.nL, by show 1 < 1000; decide, ?_⟩
  have hcf : putF "own_length" (.int (tlen ps)) (putF "own_pieces" (.ref pa) []) = cf (.ref pa) (tlen ps) := rfl
  rw [hcf]
  have k2 := dp_keep (o := .ins C dx (cf (.ref pa) (tlen ps))) (ins_nt hx2) (encL ps) _ (nl_encL ps) (dp_mono R2 _ _ k1)
  refine ⟨_, rfl, x, C, dx, _, _, rfl, upd_same, T.cl, T.nL, cf_l _ _, _, _, rfl, rfl, _, rfl, ?_⟩
  have c1 : ¬ (10 : Int) ^ 40 < tlen ps := by
    have : (2000 : Int) ≤ 10 ^ 40 := by decide
    omega
  refine iteD c1 ?_
  refine ⟨_, rfl, x, C, dx, _, _, rfl, upd_same, T.cl, T.nP, cf_p _ _, S, m, ps, _, rfl, k2, hw, by show tlen ps ≤ 1000000; omega, by omega, fun H3 R3 => ?_⟩
  refine ⟨_, _, rfl, rfl, _, rfl, ?_⟩
  refine iteD (show ¬ (200 : Int) < pcnt ps by omega) ?_
  refine q H3 (fun b o e hb => R3 _ _ ?_) (R3 _ _ upd_same) (dp_mono R3 _ _ k2)
  rw [upd_ne hb]
  refine R2 _ _ ?_
  rw [upd_ne hb]; exact e
theorem scPart : FnScope ["name", "start", "end", "value"] ["name", "start", "end"] (defScope sPart) := ⟨rfl, rfl, rfl, by decide +kernel, rfl, by decide +kernel, by decide +kernel⟩
theorem ok_part {fI g1 g2 : Addr} {fdI d1 d2 : FuncData} (F : Fun K "part" "Clip.part" sPart f fd) (T : CT K mg C) (M : MkC P w K mg base C fI fdI)
    (D1 : Df K mg "is_name" sIsName ["value"] g1 d1) (G1 : FnOk P w K mg base CX0 1 g1 d1 ["value"] spIsName)
    (D2 : Df K mg "is_integer" sIsInt ["value"] g2 d2) (G2 : FnOk P w K mg base CX0 1 g2 d2 ["value"] spIsInt) :
    FnOk P w K mg base CX0 36 f fd ["name", "start", "end"] (spPart K C) := by
  refine F.ok scPart (fun vs H Q E h => ?_) (fun cdv A outer s H vs Q E hr h => ?_)
  · obtain ⟨nm, s, e, rfl, _⟩ := h
    rfl
  obtain ⟨nm, s, e, rfl, hn, hse, q⟩ := h
  have hr1 : Room 1 _ := hr.mono (by decide)
  have hrM : Room (22 + 1) _ := hr.mono (by decide)
  refine ⟨_, pss_cons (ps_if (pt_not (pt_val (pe_call G1 hr1 rfl D1.mg D1.fn.kp D1.bd .nil pass0 (pa_cons (pv 0) pa_nil)))) (pss_one ps_never) pss_nil)
    (pss_cons (ps_for PassesOwn.never rfl (pi_tup (pe_tup (pa_cons (pv 1) (pa_cons (pv 2) pa_nil)))) (pg_name (i := 3) scPart.nd rfl (Or.inl rfl))
      (pss_one (ps_if (PW.pt (pw_or (pt_not (pt_val (pe_call G2 hr1 rfl D2.mg D2.fn.kp D2.bd .nil pass0 (pa_cons (pv 3) pa_nil)))) (pw_or1 (pt_cmpR op_lt (pv 3) pe_int (nomark _))))) (pss_one ps_never) pss_nil)))
    (pss_cons (ps_if (pt_cmpR op_lt (pv 2) (pv 1) (nomark _)) (pss_one ps_never) pss_nil)
    (pss_one (ps_ret (pe_make M.cls M.ok hrM rfl T.mgC M.bd .nil pass0 (pa_cons (pe_ifExp (pt_cmpR op_lt (pv 1) (pv 2) (nomark _))
      (pe_tup (pa_cons (pe_tup (pa_cons pe_str (pa_cons (pv 0) (pa_cons (pv 1) (pa_cons (pv 2) (pa_cons (pe_tup pa_nil) pa_nil)))))) pa_nil)) (pe_tup pa_nil)) pa_nil)))))), ?_⟩
  refine ⟨_, rfl, nm, rfl, hn, fun H1 R1 => ⟨true, rfl, iteF ?_⟩⟩
  refine ⟨_, rfl, _, rfl, by show 2 ≤ sizeLine; decide, fun p np => ?_⟩
  have R2 := R1.trans (same_new np (.tup [.int s, .int e]))
  refine ⟨p, rfl, ⟨_, SqT.of upd_same⟩, for_tup (K := K) (a := p) (xs := [.int s, .int e]) (fun i σ H' => ∃ (o3 : Option V), σ = [some (.str nm), some (.int s), some (.int e), o3] ∧ Same (upd H1 p (.tup [.int s, .int e])) H')
    ⟨none, rfl, Same.refl _⟩ (fun i σ H' _ ⟨_, _, R⟩ => SqT.of (R _ _ upd_same)) ?_ ?_⟩
  · rintro i x σ H2 hi ⟨o3, rfl, R3⟩
    obtain ⟨z, rfl, hz⟩ : ∃ z, x = V.int z ∧ 0 ≤ z := by
      match i, hi with
      | 0, hi => cases hi; exact ⟨s, rfl, hse.1⟩
      | 1, hi => cases hi; exact ⟨e, rfl, by omega⟩
      | i + 2, hi => simp at hi
    refine ⟨_, rfl, z, rfl, true, rfl, ?_⟩
    refine ⟨_, rfl, _, _, rfl, rfl, _, rfl, iteD (show ¬ z < 0 by omega) ?_⟩
    exact ⟨_, rfl, R3⟩
  · rintro σ H2 ⟨o3, rfl, R3⟩
    have R4 := R2.trans R3
    refine ⟨_, rfl, _, rfl, _, _, rfl, rfl, _, rfl, iteD (show ¬ e < s by omega) ?_⟩
    refine ⟨_, rfl, _, rfl, _, _, rfl, rfl, _, rfl, ?_⟩
    by_cases c : s < e
    · refine iteE c ⟨_, rfl, _, rfl, _, rfl, by show 0 ≤ sizeLine; decide, fun p1 np1 => ⟨by show 5 ≤ sizeLine; decide, fun p2 np2 => ⟨by show 1 ≤ sizeLine; decide, fun p3 np3 => ?_⟩⟩⟩
      have S1 := same_new np1 (.tup [])
      have S2 := same_new np2 (.tup [.str ("part" : Str), .str nm, .int s, .int e, .ref p1])
      have S3 := same_new np3 (.tup [.ref p2])
      have em : made (.part nm s e) = [.part nm s e []] := by simp only [made, if_pos c]
      refine mk_read (ps := made (.part nm s e)) ?_ ⟨q.1, fun H' r RR => q.2 H' r (R4.trans (S1.trans (S2.trans (S3.trans RR))))⟩
      rw [em]
      have g0 : Dp K (upd H2 p1 (.tup [])) (.ref p1) (encG []) := .tup (SqT.of upd_same) .nil
      exact .tup (SqT.of upd_same) (.cons (dp_mono S3 _ _ (of_part (SqT.of upd_same) (dp_mono S2 _ _ g0))) .nil)
    · refine iteD c ⟨by show 0 ≤ sizeLine; decide, fun p1 np1 => ?_⟩
      have S1 := same_new np1 (.tup [])
      have em : made (.part nm s e) = [] := by simp only [made, if_neg c]
      refine mk_read (ps := made (.part nm s e)) ?_ ⟨q.1, fun H' r RR => q.2 H' r (R4.trans (S1.trans RR))⟩
      rw [em]
      exact .tup (SqT.of upd_same) .nil
end
end K46
/-! part W9 -/
set_option Elab.async false
set_option linter.all false
set_option maxRecDepth 100000
set_option maxHeartbeats 2000000
namespace K46
open PySem PySem.Spec PyProof.Rows L2 K46R
section
variable {P : Program} {w : World} {K : PySem.W.Frag} {mg : Str → Option Value} {base : Heap} {f C : Addr} {fd : FuncData}
theorem scSil : FnScope ["count"] ["count"] (defScope sSil) := ⟨rfl, rfl, rfl, by decide +kernel, rfl, by decide +kernel, by decide +kernel⟩
theorem ok_sil {fI g1 : Addr} {fdI d1 : FuncData} (F : Fun K "silence" "Clip.silence" sSil f fd) (T : CT K mg C) (M : MkC P w K mg base C fI fdI) (cs : Cst mg)
    (D1 : Df K mg "is_between" sBetw ["value", "least", "most"] g1 d1) (G1 : FnOk P w K mg base CX0 2 g1 d1 ["value", "least", "most"] spBetw) :
    FnOk P w K mg base CX0 36 f fd ["count"] (spSil K C) := by
  refine F.ok scSil (fun vs H Q E h => ?_) (fun cdv A outer s H vs Q E hr h => ?_)
  · obtain ⟨n, rfl, _⟩ := h
    rfl
  obtain ⟨n, rfl, hn, q⟩ := h
  have hr1 : Room 2 _ := hr.mono (by decide)
  have hrM : Room (22 + 1) _ := hr.mono (by decide)
  obtain ⟨t1, m1⟩ := cs.cnt
  refine ⟨_, pss_cons (ps_if (pt_not (pt_val (pe_call G1 hr1 rfl D1.mg D1.fn.kp D1.bd .nil pass0 (pa_cons (pv 0) (pa_cons pe_int (pa_cons (pe_glob (v := .int (10 ^ 30)) rfl m1 ⟨_, rfl⟩) pa_nil)))))) (pss_one ps_never) pss_nil)
    (pss_one (ps_ret (pe_make M.cls M.ok hrM rfl T.mgC M.bd .nil pass0 (pa_cons (pe_ifExp (pt_cmpR op_gt (pv 0) pe_int (nomark _))
      (pe_tup (pa_cons (pe_tup (pa_cons pe_str (pa_cons (pv 0) pa_nil))) pa_nil)) (pe_tup pa_nil)) pa_nil)))), ?_⟩
  have big : (1000 : Int) ≤ 10 ^ 30 := by decide
  refine ⟨_, rfl, n, 0, 10 ^ 30, rfl, hn.1, by omega, true, rfl, iteF ?_⟩
  refine ⟨_, rfl, _, _, rfl, rfl, _, rfl, ?_⟩
  by_cases c : 0 < n
  · refine iteE c ⟨_, rfl, by show 2 ≤ sizeLine; decide, fun p2 np2 => ⟨by show 1 ≤ sizeLine; decide, fun p3 np3 => ?_⟩⟩
    have S2 := same_new np2 (.tup [.str ("silence" : Str), .int n])
    have S3 := same_new np3 (.tup [.ref p2])
    have em : made (.sil n) = [.sil n] := by simp only [made, gt_iff_lt, if_pos c]
    refine mk_read (ps := made (.sil n)) ?_ ⟨q.1, fun H' r RR => q.2 H' r (S2.trans (S3.trans RR))⟩
    rw [em]
    exact .tup (SqT.of upd_same) (.cons (dp_mono S3 _ _ (of_sil (SqT.of upd_same))) .nil)
  · refine iteD c ⟨by show 0 ≤ sizeLine; decide, fun p1 np1 => ?_⟩
    have S1 := same_new np1 (.tup [])
    have em : made (.sil n) = [] := by simp only [made, gt_iff_lt, if_neg c]
    refine mk_read (ps := made (.sil n)) ?_ ⟨q.1, fun H' r RR => q.2 H' r (S1.trans RR)⟩
    rw [em]
    exact .tup (SqT.of upd_same) .nil
theorem scSams : FnScope ["sound"] ["sound"] (defScope sSams) := ⟨rfl, rfl, rfl, by decide +kernel, rfl, by decide +kernel, by decide +kernel⟩
theorem ok_sams {fI g1 : Addr} {fdI d1 : FuncData} (F : Fun K "samples" "Clip.samples" sSams f fd) (T : CT K mg C) (M : MkC P w K mg base C fI fdI) (B : Bt mg)
    (D1 : Df K mg "require_sound" sReqS ["sound"] g1 d1) (G1 : FnOk P w K mg base CX0 2 g1 d1 ["sound"] spReqS) :
    FnOk P w K mg base CX0 36 f fd ["sound"] (spSams K C) := by
  refine F.ok scSams (fun vs H Q E h => ?_) (fun cdv A outer s H vs Q E hr h => ?_)
  · obtain ⟨a, ns, rfl, _⟩ := h
    rfl
  obtain ⟨a, ns, rfl, ha, hn, q⟩ := h
  have hr1 : Room 2 _ := hr.mono (by decide)
  have hrM : Room (22 + 1) _ := hr.mono (by decide)
  refine ⟨_, pss_cons (ps_expr (pe_call G1 hr1 rfl D1.mg D1.fn.kp D1.bd .nil pass0 (pa_cons (pv 0) pa_nil)))
    (pss_one (ps_ret (pe_make M.cls M.ok hrM rfl T.mgC M.bd .nil pass0 (pa_cons (pe_ifExp (pt_cmpR op_gt (pe_callB call_len_seq (by rfl) B.len PySem.boot_len (pa_cons (pv 0) pa_nil)) pe_int (nomark _))
      (pe_tup (pa_cons (pe_tup (pa_cons pe_str (pa_cons (pe_callTy call_tuple_of (by rfl) B.tuple (by decide +kernel) (pa_cons (pv 0) pa_nil)) (pa_cons (pe_tup pa_nil) pa_nil)))) pa_nil)) (pe_tup pa_nil)) pa_nil)))), ?_⟩
  refine ⟨_, rfl, a, ns, rfl, ha, fun H1 R1 => ?_⟩
  have ha1 := R1 _ _ ha
  refine ⟨_, rfl, a, _, rfl, .inl (SqL.of ha1), _, _, rfl, rfl, _, rfl, ?_⟩
  rw [List.length_map]
  by_cases c : 0 < (ns.length : Int)
  · refine iteE c ⟨_, rfl, a, _, rfl, .inl ⟨SqL.of ha1, fun p0 np0 => ⟨by show 0 ≤ sizeLine; decide, fun p1 np1 => ⟨by show 3 ≤ sizeLine; decide, fun p2 np2 => ⟨by show 1 ≤ sizeLine; decide, fun p3 np3 => ?_⟩⟩⟩⟩⟩
    have S0 := same_new np0 (.tup (ns.map V.int))
    have S1 := same_new np1 (.tup [])
    have S2 := same_new np2 (.tup [.str ("samples" : Str), .ref p0, .ref p1])
    have S3 := same_new np3 (.tup [.ref p2])
    have em : made (.sam ns) = [.sam ns []] := by simp only [made, gt_iff_lt, if_pos c]
    refine mk_read (ps := made (.sam ns)) ?_ ⟨q.1, fun H' r RR => q.2 H' r (R1.trans (S0.trans (S1.trans (S2.trans (S3.trans RR)))))⟩
    rw [em]
    have g0 : Dp K (upd (upd H1 p0 (.tup (ns.map V.int))) p1 (.tup [])) (.ref p1) (encG []) := .tup (SqT.of upd_same) .nil
    exact .tup (SqT.of upd_same) (.cons (dp_mono S3 _ _ (of_sam (SqT.of upd_same) (sqT_mono (S1.trans S2) (SqT.of upd_same)) (dp_mono S2 _ _ g0))) .nil)
  · refine iteD c ⟨by show 0 ≤ sizeLine; decide, fun p1 np1 => ?_⟩
    have S1 := same_new np1 (.tup [])
    have em : made (.sam ns) = [] := by simp only [made, gt_iff_lt, if_neg c]
    refine mk_read (ps := made (.sam ns)) ?_ ⟨q.1, fun H' r RR => q.2 H' r (R1.trans (S1.trans RR))⟩
    rw [em]
    exact .tup (SqT.of upd_same) .nil
theorem scLen : FnScope ["self"] ["self"] (defScope sLen) := ⟨rfl, rfl, rfl, by decide +kernel, rfl, by decide +kernel, by decide +kernel⟩
theorem ok_len (F : Fun K "length" "Clip.length" sLen f fd) (T : CT K mg C) : FnOk P w K mg base CX0 36 f fd ["self"] (spLen K C) := by
  refine F.ok scLen (fun vs H Q E h => ?_) (fun cdv A outer s H vs Q E hr h => ?_)
  · obtain ⟨v, ps, rfl, _⟩ := h
    rfl
  obtain ⟨v, ps, rfl, ⟨a, dx, x, rfl, h1, h2⟩, hb, q⟩ := h
  exact ⟨_, pss_one (ps_ret (pe_fld (pv 0) rfl)), _, rfl, a, C, dx, _, _, rfl, h1, T.cl, T.nL, cf_l _ _, q⟩
theorem scNms : FnScope ["self"] ["self"] (defScope sNms) := ⟨rfl, rfl, rfl, by decide +kernel, rfl, by decide +kernel, by decide +kernel⟩
theorem ok_nms {g1 : Addr} {d1 : FuncData} (F : Fun K "names" "Clip.names" sNms f fd) (T : CT K mg C) (B : Bt mg)
    (D1 : Df K mg "names_in" sNames ["pieces"] g1 d1) (G1 : FnOk P w K mg base CX0 10 g1 d1 ["pieces"] (spNames K 10)) : FnOk P w K mg base CX0 11 f fd ["self"] (spNms K C) := by
  refine F.ok scNms (fun vs H Q E h => ?_) (fun cdv A outer s H vs Q E hr h => ?_)
  · obtain ⟨v, ps, rfl, _⟩ := h
    rfl
  obtain ⟨v, ps, rfl, ⟨a, dx, x, rfl, h1, h2⟩, ⟨⟨S, m, hw, hm⟩, tl, pc, dp⟩, q⟩ := h
  refine ⟨_, pss_one (ps_ret (pe_callB cr_sortedS (by rfl) B.sorted (by decide +kernel) (pa_cons (pe_callTy (call_list_dK rfl) (by rfl) B.list (by decide +kernel) (pa_cons
    (pe_call G1 hr rfl D1.mg D1.fn.kp D1.bd .nil pass0 (pa_cons (pe_fld (pv 0) rfl) pa_nil)) pa_nil)) pa_nil))), ?_⟩
  refine ⟨_, rfl, a, C, dx, _, _, rfl, h1, T.cl, T.nP, cf_p _ _, S, m, ps, _, rfl, h2, hw, by omega, fun H1 p R1 np hp => ?_⟩
  refine ⟨p, _, rfl, hp, fun p2 np2 => ?_⟩
  obtain ⟨n1, n2, n3⟩ := names_small hw (l := []) List.nodup_nil (fun x hx => by cases hx)
  have R2 := R1.trans (same_new np2 (.lst ((nmD (namesGo ps [])).map fun kv => kV kv.1)))
  have e : ((nmD (namesGo ps [])).map fun kv => kV kv.1) = (namesGo ps []).map V.str := by
    unfold nmD
    rw [List.map_map]; rfl
  refine ⟨p2, namesGo ps [], rfl, SqL.of (by rw [upd_same, e]), by omega, fun ys p3 py sy np3 => ?_⟩
  have ey := ab_of hw py sy
  subst ey
  exact q _ p3 (R2.trans (same_new np3 _)) upd_same
theorem scPcs : FnScope ["self"] ["self"] (defScope sPcs) := ⟨rfl, rfl, rfl, by decide +kernel, rfl, by decide +kernel, by decide +kernel⟩
theorem ok_pcs (F : Fun K "pieces" "Clip.pieces" sPcs f fd) (T : CT K mg C) (B : Bt mg) : FnOk P w K mg base CX0 36 f fd ["self"] (spPcs K C) := by
  refine F.ok scPcs (fun vs H Q E h => ?_) (fun cdv A outer s H vs Q E hr h => ?_)
  · obtain ⟨v, ps, rfl, _⟩ := h
    rfl
  obtain ⟨v, ps, rfl, ⟨a, dx, x, rfl, h1, h2⟩, hb, q⟩ := h
  refine ⟨_, pss_one (ps_ret (pe_callTy call_list_of (by rfl) B.list (by decide +kernel) (pa_cons (pe_fld (pv 0) rfl) pa_nil))), ?_⟩
  obtain ⟨pa, xs, rfl, k1, k2⟩ := dp_tup h2
  refine ⟨_, rfl, a, C, dx, _, _, rfl, h1, T.cl, T.nP, cf_p _ _, pa, xs, rfl, .inr k1, fun l nl => ?_⟩
  have R := same_new nl (.lst xs)
  exact q _ l xs R upd_same (dpa_mono R _ _ k2)
theorem scReq : FnScope ["self", "start", "end", "value"] ["self", "start", "end"] (defScope sReq) := ⟨rfl, rfl, rfl, by decide +kernel, rfl, by decide +kernel, by decide +kernel⟩
theorem ok_req {g1 : Addr} {d1 : FuncData} (F : Fun K "require_stretch" "Clip.require_stretch" sReq f fd) (T : CT K mg C)
    (D1 : Df K mg "is_between" sBetw ["value", "least", "most"] g1 d1) (G1 : FnOk P w K mg base CX0 2 g1 d1 ["value", "least", "most"] spBetw) :
    FnOk P w K mg base CX0 3 f fd ["self", "start", "end"] (spReq K C) := by
  refine F.ok scReq (fun vs H Q E h => ?_) (fun cdv A outer s H vs Q E hr h => ?_)
  · obtain ⟨v, ps, a, b, rfl, _⟩ := h
    rfl
  obtain ⟨v, ps, a, b, rfl, ⟨o, dx, x, rfl, h1, h2⟩, hab, q⟩ := h
  refine ⟨_, pss_cons (ps_for PassesOwn.never rfl (pi_tup (pe_tup (pa_cons (pv 1) (pa_cons (pv 2) pa_nil)))) (pg_name (i := 3) scReq.nd rfl (Or.inl rfl))
      (pss_one (ps_if (pt_not (pt_val (pe_call G1 hr rfl D1.mg D1.fn.kp D1.bd .nil pass0 (pa_cons (pv 3) (pa_cons pe_int (pa_cons (pe_fld (pv 0) rfl) pa_nil)))))) (pss_one ps_never) pss_nil)))
    (pss_one (ps_if (pt_cmpR op_lt (pv 2) (pv 1) (nomark _)) (pss_one ps_never) pss_nil)), ?_⟩
  refine ⟨_, rfl, _, rfl, by show 2 ≤ sizeLine; decide, fun p np => ?_⟩
  have R2 := same_new np (.tup [.int a, .int b])
  refine ⟨p, rfl, ⟨_, SqT.of upd_same⟩, for_tup (K := K) (a := p) (xs := [.int a, .int b]) (fun i σ H' => ∃ (o3 : Option V), σ = [some (.ref o), some (.int a), some (.int b), o3] ∧ Same (upd H p (.tup [.int a, .int b])) H')
    ⟨none, rfl, Same.refl _⟩ (fun i σ H' _ ⟨_, _, R⟩ => SqT.of (R _ _ upd_same)) ?_ ?_⟩
  · rintro i x' σ H2 hi ⟨o3, rfl, R3⟩
    obtain ⟨z, rfl, hz⟩ : ∃ z, x' = V.int z ∧ 0 ≤ z ∧ z ≤ tlen ps := by
      match i, hi with
      | 0, hi => cases hi; exact ⟨a, rfl, by omega⟩
      | 1, hi => cases hi; exact ⟨b, rfl, by omega⟩
      | i + 2, hi => simp at hi
    refine ⟨_, rfl, _, rfl, o, C, dx, _, _, rfl, (R2.trans R3) _ _ h1, T.cl, T.nL, cf_l _ _, z, 0, tlen ps, rfl, hz.1, hz.2, true, rfl, iteF ?_⟩
    exact ⟨_, rfl, R3⟩
  · rintro σ H2 ⟨o3, rfl, R3⟩
    exact ⟨_, rfl, _, rfl, _, _, rfl, rfl, _, rfl, iteD (show ¬ b < a by omega) (q H2 (R2.trans R3))⟩
theorem scCut : FnScope ["self", "start", "end"] ["self", "start", "end"] (defScope sCut) := ⟨rfl, rfl, rfl, by decide +kernel, rfl, by decide +kernel, by decide +kernel⟩
theorem ok_cut {fI g1 g2 : Addr} {fdI d1 d2 : FuncData} (F : Fun K "cut" "Clip.cut" sCut f fd) (T : CT K mg C) (M : MkC P w K mg base C fI fdI)
    (D1 : Md K C "require_stretch" g1 d1 ["self", "start", "end"]) (G1 : FnOk P w K mg base CX0 3 g1 d1 ["self", "start", "end"] (spReq K C))
    (D2 : Df K mg "cut_pieces" sCutPs ["pieces", "start", "end"] g2 d2) (G2 : FnOk P w K mg base CX0 34 g2 d2 ["pieces", "start", "end"] (spCutPs K 10)) :
    FnOk P w K mg base CX0 36 f fd ["self", "start", "end"] (spCut K C) := by
  refine F.ok scCut (fun vs H Q E h => ?_) (fun cdv A outer s H vs Q E hr h => ?_)
  · obtain ⟨v, ps, a, b, rfl, _⟩ := h
    rfl
  obtain ⟨v, ps, a, b, rfl, hc, hb, hab, q⟩ := h
  obtain ⟨o, dx, x, rfl, h1, h2⟩ := id hc
  obtain ⟨⟨S, m, hw, hm⟩, tl, pc, dp⟩ := hb
  have hr1 : Room 3 _ := hr.mono (by decide)
  have hr2 : Room 34 _ := hr.mono (by decide)
  have hrM : Room (22 + 1) _ := hr.mono (by decide)
  refine ⟨_, pss_cons (ps_expr (pe_meth (pv 0) T.cl D1.mt G1 hr1 D1.bd .nil pass0 (pa_cons (pv 1) (pa_cons (pv 2) pa_nil))))
    (pss_one (ps_ret (pe_make M.cls M.ok hrM rfl T.mgC M.bd .nil pass0 (pa_cons (pe_call G2 hr2 rfl D2.mg D2.fn.kp D2.bd .nil pass0 (pa_cons (pe_fld (pv 0) rfl) (pa_cons (pv 1) (pa_cons (pv 2) pa_nil)))) pa_nil)))), ?_⟩
  refine ⟨_, rfl, o, dx, _, rfl, h1, cf_no _ _ (by decide +kernel) (by decide +kernel), _, rfl, _, rfl, _, ps, a, b, rfl, hc, hab, fun H1 R1 => ?_⟩
  refine ⟨_, rfl, o, C, dx, _, _, rfl, R1 _ _ h1, T.cl, T.nP, cf_p _ _, _, rfl, _, rfl, S, m, ps, a, b, _, rfl, dp_mono R1 _ _ h2, hw, by show tlen ps ≤ 1000000; omega, by omega, by omega, fun H2 r R2 hr2 => ?_⟩
  exact mk_read hr2 ⟨q.1, fun H' r RR => q.2 H' r (R1.trans (R2.trans RR))⟩
theorem scGnd : FnScope ["self", "top", "bottom"] ["self", "top", "bottom"] (defScope sGnd) := ⟨rfl, rfl, rfl, by decide +kernel, rfl, by decide +kernel, by decide +kernel⟩
theorem ok_gnd {fI g1 g2 : Addr} {fdI d1 d2 : FuncData} (F : Fun K "gained" "Clip.gained" sGnd f fd) (T : CT K mg C) (M : MkC P w K mg base C fI fdI) (cs : Cst mg)
    (D1 : Df K mg "is_between" sBetw ["value", "least", "most"] g1 d1) (G1 : FnOk P w K mg base CX0 2 g1 d1 ["value", "least", "most"] spBetw)
    (D2 : Df K mg "gained_pieces" sGain ["pieces", "gain"] g2 d2) (G2 : FnOk P w K mg base CX0 10 g2 d2 ["pieces", "gain"] (spGain K 10)) :
    FnOk P w K mg base CX0 36 f fd ["self", "top", "bottom"] (spGnd K C) := by
  refine F.ok scGnd (fun vs H Q E h => ?_) (fun cdv A outer s H vs Q E hr h => ?_)
  · obtain ⟨v, ps, a, b, rfl, _⟩ := h
    rfl
  obtain ⟨v, ps, a, b, rfl, ⟨o, dx, x, rfl, h1, h2⟩, ⟨⟨S, m, hw, hm⟩, tl, pc, dp⟩, hab, q⟩ := h
  have hr1 : Room 2 _ := hr.mono (by decide)
  have hr2 : Room 10 _ := hr.mono (by decide)
  have hrM : Room (22 + 1) _ := hr.mono (by decide)
  obtain ⟨t1, m1⟩ := cs.gain
  refine ⟨_, pss_cons (ps_if (pt_not (pt_val (pe_call G1 hr1 rfl D1.mg D1.fn.kp D1.bd .nil pass0 (pa_cons (pv 1) (pa_cons (pe_un un_neg (pe_glob (v := .int 1000) rfl m1 ⟨_, rfl⟩)) (pa_cons (pe_glob (v := .int 1000) rfl m1 ⟨_, rfl⟩) pa_nil)))))) (pss_one ps_never) pss_nil)
    (pss_cons (ps_if (pt_not (pt_val (pe_call G1 hr1 rfl D1.mg D1.fn.kp D1.bd .nil pass0 (pa_cons (pv 2) (pa_cons pe_int (pa_cons (pe_glob (v := .int 1000) rfl m1 ⟨_, rfl⟩) pa_nil)))))) (pss_one ps_never) pss_nil)
    (pss_one (ps_ret (pe_make M.cls M.ok hrM rfl T.mgC M.bd .nil pass0 (pa_cons (pe_call G2 hr2 rfl D2.mg D2.fn.kp D2.bd .nil pass0 (pa_cons (pe_fld (pv 0) rfl) (pa_cons (pe_tup (pa_cons (pv 1) (pa_cons (pv 2) pa_nil))) pa_nil))) pa_nil))))), ?_⟩
  refine ⟨_, rfl, _, rfl, a, -1000, 1000, rfl, hab.1.1, hab.1.2, true, rfl, iteF ?_⟩
  refine ⟨_, rfl, b, 1, 1000, rfl, hab.2.1, hab.2.2, true, rfl, iteF ?_⟩
  refine ⟨_, rfl, o, C, dx, _, _, rfl, h1, T.cl, T.nP, cf_p _ _, _, rfl, _, rfl, by show 2 ≤ sizeLine; decide, fun p np => ?_⟩
  have R1 := same_new np (.tup [.int a, .int b])
  refine ⟨S, m, ps, (a, b), _, _, rfl, dp_mono R1 _ _ h2, .tup (SqT.of upd_same) (.cons (.int a) (.cons (.int b) .nil)), hw, by omega, by show tlen ps ≤ 1000000; omega, by omega, fun H2 r R2 hr2 => ?_⟩
  exact mk_read hr2 ⟨q.1, fun H' r RR => q.2 H' r (R1.trans (R2.trans RR))⟩
theorem scSmp : FnScope ["self", "place", "sounds", "name"] ["self", "place", "sounds"] (defScope sSmp) := ⟨rfl, rfl, rfl, by decide +kernel, rfl, by decide +kernel, by decide +kernel⟩
theorem ok_smp {g1 g2 g3 : Addr} {d1 d2 d3 : FuncData} (F : Fun K "sample" "Clip.sample" sSmp f fd) (T : CT K mg C)
    (D1 : Df K mg "is_between" sBetw ["value", "least", "most"] g1 d1) (G1 : FnOk P w K mg base CX0 2 g1 d1 ["value", "least", "most"] spBetw)
    (D2 : Md K C "names" g2 d2 ["self"]) (G2 : FnOk P w K mg base CX0 11 g2 d2 ["self"] (spNms K C))
    (D3 : Df K mg "sample_of" sSam ["pieces", "place", "sounds"] g3 d3) (G3 : FnOk P w K mg base CX0 22 g3 d3 ["pieces", "place", "sounds"] (spSam K 10)) :
    FnOk P w K mg base CX0 36 f fd ["self", "place", "sounds"] (spSmp K C) := by
  refine F.ok scSmp (fun vs H Q E h => ?_) (fun cdv A outer s H vs Q E hr h => ?_)
  · obtain ⟨S, m, v, ps, j, sd, rfl, _⟩ := h
    rfl
  obtain ⟨S, m, v, ps, j, sd, rfl, hc, hw, hb, hj, hs, q⟩ := h
  obtain ⟨o, dx, x, rfl, h1, h2⟩ := id hc
  obtain ⟨_, tl, pc, dp⟩ := id hb
  have hu := hu_of hr
  have hr1 : Room 2 _ := hr.mono (by decide)
  have hr2 : Room 11 _ := hr.mono (by decide)
  have hr3 : Room 22 _ := hr.mono (by decide)
  refine ⟨_, pss_cons (ps_if (pt_not (pt_val (pe_call G1 hr1 rfl D1.mg D1.fn.kp D1.bd .nil pass0 (pa_cons (pv 1) (pa_cons pe_int (pa_cons (pe_op op_sub (pe_fld (pv 0) rfl) pe_int) pa_nil)))))) (pss_one ps_never) pss_nil)
    (pss_cons (ps_for PassesOwn.never rfl (pi_list (pe_meth0 (pv 0) T.cl D2.mt G2 hr2 D2.bd .nil pass0)) (pg_name (i := 3) scSmp.nd rfl (Or.inl rfl))
      (pss_one (ps_if (pt_cmp (pc_dnotin hu (pv 3) (pv 2))) (pss_one ps_never) pss_nil)))
    (pss_one (ps_ret (pe_call G3 hr3 rfl D3.mg D3.fn.kp D3.bd .nil pass0 (pa_cons (pe_fld (pv 0) rfl) (pa_cons (pv 1) (pa_cons (pv 2) pa_nil))))))), ?_⟩
  refine ⟨_, rfl, _, rfl, o, C, dx, _, _, rfl, h1, T.cl, T.nL, cf_l _ _, _, _, rfl, rfl, j, 0, tlen ps - 1, rfl, hj.1, by omega, true, rfl, iteF ?_⟩
  refine ⟨_, rfl, o, dx, _, rfl, h1, cf_no _ _ (by decide +kernel) (by decide +kernel), _, ps, rfl, hc, hb, fun H1 p R1 hp => ?_⟩
  refine ⟨p, rfl, ⟨_, SqL.of hp⟩, for_list (K := K) (a := p) (xs := (abOf ps).map V.str) (fun i σ H' => ∃ (o3 : Option V), σ = [some (.ref o), some (.int j), some (.ref sd), o3] ∧ Same H1 H')
    ⟨none, rfl, Same.refl _⟩ (fun i σ H' _ ⟨_, _, R⟩ => SqL.of (R _ _ hp)) ?_ ?_⟩
  · rintro i z σ H2 hi ⟨o3, rfl, R2⟩
    rw [List.getElem?_map] at hi
    obtain ⟨nm, en, rfl⟩ := Option.map_eq_some_iff.mp hi
    have hn : nm = sA ∨ nm = sB := by
      have z := List.mem_of_getElem? en
      unfold abOf at z
      have := (List.mem_filter.mp z).1
      simpa using this
    obtain ⟨l, g1, _⟩ := (hs.mono (R1.trans R2)).get hn
    refine ⟨_, rfl, _, rfl, sd, _, rfl, g1, _, rfl, iteF ?_⟩
    exact ⟨_, rfl, R2⟩
  · rintro σ H2 ⟨o3, rfl, R2⟩
    have R := R1.trans R2
    exact ⟨_, rfl, o, C, dx, _, _, rfl, R _ _ h1, T.cl, T.nP, cf_p _ _, _, rfl, _, rfl, S, m, ps, j, _, sd, rfl, dp_mono R _ _ h2, hw, by show tlen ps ≤ 1000000; omega, by omega, hj, hs.mono R, fun H3 R3 => q H3 (R.trans R3)⟩
theorem scAdd : FnScope ["self", "other"] ["self", "other"] (defScope sAdd) := ⟨rfl, rfl, rfl, by decide +kernel, rfl, by decide +kernel, by decide +kernel⟩
theorem ok_add {fI g1 : Addr} {fdI d1 : FuncData} (F : Fun K "__add__" "Clip.__add__" sAdd f fd) (T : CT K mg C) (M : MkC P w K mg base C fI fdI)
    (D1 : Df K mg "both_pieces" sBoth ["first", "second"] g1 d1) (G1 : FnOk P w K mg base CX0 2 g1 d1 ["first", "second"] (spBoth K)) :
    FnOk P w K mg base CX0 36 f fd ["self", "other"] (spAdd K C) := by
  refine F.ok scAdd (fun vs H Q E h => ?_) (fun cdv A outer s H vs Q E hr h => ?_)
  · obtain ⟨S, m, v, u, a, b, rfl, _⟩ := h
    rfl
  obtain ⟨S, m, v, u, a, b, rfl, ⟨o, dx, x, rfl, h1, h2⟩, ⟨o', dx', x', rfl, h1', h2'⟩, wa, wb, ba, bb, q⟩ := h
  have hr1 : Room 2 _ := hr.mono (by decide)
  have hrM : Room (22 + 1) _ := hr.mono (by decide)
  refine ⟨_, pss_one (ps_ret (pe_make M.cls M.ok hrM rfl T.mgC M.bd .nil pass0 (pa_cons (pe_call G1 hr1 rfl D1.mg D1.fn.kp D1.bd .nil pass0 (pa_cons (pe_fld (pv 0) rfl) (pa_cons (pe_fld (pv 1) rfl) pa_nil))) pa_nil))), ?_⟩
  have ta := ba.tl
  have tb := bb.tl
  have da := ba.dp
  have db := bb.dp
  refine ⟨_, rfl, o, C, dx, _, _, rfl, h1, T.cl, T.nP, cf_p _ _, _, rfl, o', C, dx', _, _, rfl, h1', T.cl, T.nP, cf_p _ _, S, m, a, b, _, _, rfl, h2, h2', wa, wb, by omega, by omega, by show tlen a ≤ 1000000; omega, by show tlen b ≤ 1000000; omega, fun H1 r R1 hr1 => ?_⟩
  exact mk_read hr1 ⟨q.1, fun H' r RR => q.2 H' r (R1.trans RR)⟩
theorem scMul : FnScope ["self", "other"] ["self", "other"] (defScope sMul) := ⟨rfl, rfl, rfl, by decide +kernel, rfl, by decide +kernel, by decide +kernel⟩
theorem ok_mul {fI g1 g2 : Addr} {fdI d1 d2 : FuncData} (F : Fun K "__mul__" "Clip.__mul__" sMul f fd) (T : CT K mg C) (M : MkC P w K mg base C fI fdI) (cs : Cst mg)
    (D1 : Df K mg "is_between" sBetw ["value", "least", "most"] g1 d1) (G1 : FnOk P w K mg base CX0 2 g1 d1 ["value", "least", "most"] spBetw)
    (D2 : Df K mg "repeated_pieces" sRepd ["pieces", "count"] g2 d2) (G2 : FnOk P w K mg base CX0 1 g2 d2 ["pieces", "count"] (spRepd K)) :
    FnOk P w K mg base CX0 36 f fd ["self", "other"] (spMul K C) := by
  refine F.ok scMul (fun vs H Q E h => ?_) (fun cdv A outer s H vs Q E hr h => ?_)
  · obtain ⟨v, ps, n, rfl, _⟩ := h
    rfl
  obtain ⟨v, ps, n, rfl, ⟨o, dx, x, rfl, h1, h2⟩, ⟨⟨S, m, hw, hm⟩, tl, pc, dp⟩, hn, q⟩ := h
  have hr1 : Room 2 _ := hr.mono (by decide)
  have hr2 : Room 1 _ := hr.mono (by decide)
  have hrM : Room (22 + 1) _ := hr.mono (by decide)
  obtain ⟨t1, m1⟩ := cs.cnt
  have big : (1000 : Int) ≤ 10 ^ 30 := by decide
  refine ⟨_, pss_cons (ps_if (pt_not (pt_val (pe_call G1 hr1 rfl D1.mg D1.fn.kp D1.bd .nil pass0 (pa_cons (pv 1) (pa_cons pe_int (pa_cons (pe_glob (v := .int (10 ^ 30)) rfl m1 ⟨_, rfl⟩) pa_nil)))))) (pss_one ps_never) pss_nil)
    (pss_one (ps_ret (pe_make M.cls M.ok hrM rfl T.mgC M.bd .nil pass0 (pa_cons (pe_call G2 hr2 rfl D2.mg D2.fn.kp D2.bd .nil pass0 (pa_cons (pe_fld (pv 0) rfl) (pa_cons (pv 1) pa_nil))) pa_nil)))), ?_⟩
  refine ⟨_, rfl, n, 0, 10 ^ 30, rfl, hn.1, by omega, true, rfl, iteF ?_⟩
  refine ⟨_, rfl, o, C, dx, _, _, rfl, h1, T.cl, T.nP, cf_p _ _, _, rfl, S, m, ps, n, _, rfl, h2, hw, by omega, ⟨hn.1, by show n ≤ 1000000; omega⟩, fun H1 r R1 hr1 => ?_⟩
  exact mk_read hr1 ⟨q.1, fun H' r RR => q.2 H' r (R1.trans RR)⟩
/-- what isinstance(x, Clip) asks of the text -/
structure EqT (K : PySem.W.Frag) (C : Addr) : Prop where
  ha : PySem.W.findIn K (.ref C) "__class__" = some (some (.builtin "object.__class__"))
  hn : PySem.W.specialIn K (.builtin "object.__class__") "__get__" = some (some (.builtin "getset_descriptor.__get__"))
  tk : PySem.W.takesIn K (.builtin "object.__class__") = some true
  hm : PySem.W.mroIn K C (.type "object") = some true
  li : PySem.W.kitOne K (.type "list") (.ref C) = some false
theorem scEq : FnScope ["self", "other"] ["self", "other"] (defScope sEq) := ⟨rfl, rfl, rfl, by decide +kernel, rfl, by decide +kernel, by decide +kernel⟩
theorem ok_eq (F : Fun K "__eq__" "Clip.__eq__" sEq f fd) (T : CT K mg C) (B : Bt mg) (X : EqT K C) : FnOk P w K mg base CX0 36 f fd ["self", "other"] (spEq K C) := by
  refine F.ok scEq (fun vs H Q E h => ?_) (fun cdv A outer s H vs Q E hr h => ?_)
  · obtain ⟨v, u, ps, rfl, _⟩ := h
    rfl
  obtain ⟨v, u, ps, rfl, ⟨o, dx, x, rfl, h1, h2⟩, ⟨⟨S, m, hw, hm⟩, tl, pc, dp⟩, q⟩ := h
  refine ⟨_, pss_cons (ps_if (pt_not (pt_val (pe_callB call_isi (by rfl) B.isi (by decide +kernel) (pa_cons (pv 1) (pa_cons (pe_glob (v := .ref C) rfl T.mgC rfl) pa_nil))))) (pss_one (ps_ret pe_bl)) pss_nil)
    (pss_one (ps_ret (pe_cmpR (op_eqD hr.units) (pe_fld (pv 0) rfl) (pe_fld (pv 1) rfl) (nomark _)))), ?_⟩
  rcases q with ⟨⟨o', dx', x', rfl, h1', h2'⟩, q⟩ | ⟨⟨b, xs, rfl, hb⟩, q⟩
  · have ko : PySem.W.kitOne K (.ref C) (.ref C) = some true := by simp [PySem.W.kitOne]
    refine ⟨_, rfl, _, _, _, _, true, rfl, .own C, .base (.ins h1' T.cl X.ha X.hn X.tk X.hm), ko, true, rfl, iteF ?_⟩
    refine ⟨_, rfl, o, C, dx, _, _, rfl, h1, T.cl, T.nP, cf_p _ _, _, rfl, o', C, dx', _, _, rfl, h1', T.cl, T.nP, cf_p _ _, encL ps, encL ps, h2, h2', shaped_encL hw (by omega), shaped_encL hw (by omega), ?_⟩
    rw [eqv_encL hw]
    exact q
  · exact ⟨_, rfl, _, _, _, _, false, rfl, .own C, .base (.lst hb), X.li, false, rfl, iteT q⟩
end
end K46
/-! part W10 -/
set_option Elab.async false
set_option linter.all false
set_option maxRecDepth 100000
set_option maxHeartbeats 2000000
namespace K46
open PySem PySem.Spec PyProof.Rows L2 K46R
abbrev sPool : Stmt := top 36
abbrev sTake : Stmt := top 37
def spTake : Sp := fun vs H Q _ => ∃ (p : Addr) (a b many : Int), vs = [.ref p, .int many] ∧ H p = some (.lst [.int a, .int b]) ∧ (0 < many ∧ many ≤ 1000) ∧
  ∀ a' b' d, 0 ≤ d → d < many → Q (.int d) (upd H p (.lst [.int a', .int b']))
section
variable {P : Program} {w : World} {K : PySem.W.Frag} {mg : Str → Option Value} {base : Heap} {f : Addr} {fd : FuncData}
theorem scTake : FnScope ["_law_pool_here", "_law_many", "_law_digit"] ["_law_pool_here", "_law_many"] (defScope sTake) := ⟨rfl, rfl, rfl, by decide +kernel, rfl, by decide +kernel, by decide +kernel⟩
theorem ok_take (F : Fun K "_law_take" "_law_take" sTake f fd) (B : Bt mg) : FnOk P w K mg base CX0 1 f fd ["_law_pool_here", "_law_many"] spTake := by
  refine F.ok scTake (fun vs H Q E h => ?_) (fun cdv A outer s H vs Q E hr h => ?_)
  · obtain ⟨p, a, b, many, rfl, _⟩ := h
    rfl
  obtain ⟨p, a, b, many, rfl, hp, hm, q⟩ := h
  refine ⟨_, pss_cons (ps_if (pt_cmpR op_gt (pe_ix ix_list (pv 0) pe_int (fun _ _ => rfl)) pe_int (nomark _))
      (pss_cons (ps_set (i := 2) scTake.nd rfl (Or.inl rfl) (pe_op op_mod (pe_callTy call_int1 (by rfl) B.int (by decide +kernel) (pa_cons (pe_ix ix_list (pv 0) pe_int (fun _ _ => rfl)) pa_nil)) (pv 1)))
      (pss_cons (ps_asg (pe_op op_fdiv (pe_ix ix_list (pv 0) pe_int (fun _ _ => rfl)) (pv 1)) (pg_sub (pv 0) pe_int set_list))
      (pss_one (ps_ret (pv 2))))) pss_nil)
    (pss_cons (ps_asg (pe_op op_mod (pe_callTy call_int1 (by rfl) B.int (by decide +kernel) (pa_cons (pe_op op_add (pe_op op_mul (pe_ix ix_list (pv 0) pe_int (fun _ _ => rfl)) pe_int) pe_int) pa_nil)) pe_int) (pg_sub (pv 0) pe_int set_list))
    (pss_one (ps_ret (pe_op op_mod (pe_op op_fdiv (pe_op op_mod (pe_callTy call_int1 (by rfl) B.int (by decide +kernel) (pa_cons (pe_op op_mul (pe_ix ix_list (pv 0) pe_int (fun _ _ => rfl)) (pe_ix ix_list (pv 0) pe_int (fun _ _ => rfl))) pa_nil)) pe_int) pe_int) (pv 1))))), ?_⟩
  refine ⟨_, rfl, p, _, _, _, rfl, rfl, .of hp, rfl, _, _, rfl, rfl, _, rfl, ?_⟩
  by_cases c : 0 < a
  · refine iteE c ?_
    refine ⟨_, rfl, p, _, _, _, rfl, rfl, .of hp, rfl, .inl ⟨a, rfl, _, rfl, _, _, rfl, rfl, hm.1, ?_⟩⟩
    refine ⟨_, rfl, p, _, _, _, rfl, rfl, .of hp, rfl, _, rfl, _, _, rfl, rfl, ⟨hm.1, by omega⟩, ?_⟩
    refine ⟨_, rfl, p, _, 0, 0, rfl, rfl, hp, rfl, _, rfl, ?_⟩
    exact q _ _ _ (Int.emod_nonneg _ (by omega)) (Int.emod_lt_of_pos _ hm.1)
  · refine iteD c ?_
    refine ⟨_, rfl, p, _, _, _, rfl, rfl, .of hp, rfl, _, _, rfl, rfl, .inr (by omega), _, _, rfl, rfl, .inl ⟨_, rfl, _, _, rfl, rfl, by omega, ?_⟩⟩
    refine ⟨_, rfl, p, _, 1, 1, rfl, rfl, hp, rfl, ?_⟩
    have l1 := Int.emod_nonneg (b * 48271 + 12345) (show (2147483647 : Int) ≠ 0 by omega)
    have l2 := Int.emod_lt_of_pos (b * 48271 + 12345) (show (0 : Int) < 2147483647 by omega)
    generalize (b * 48271 + 12345) % 2147483647 = b' at *
    refine ⟨_, rfl, p, _, _, _, rfl, rfl, .of upd_same, rfl, _, rfl, p, _, _, _, rfl, rfl, .of upd_same, rfl, _, _, rfl, rfl, .inl (by omega), .inl ⟨_, rfl, _, _, rfl, rfl, by omega, ?_⟩⟩
    refine ⟨_, _, rfl, rfl, ⟨by omega, by omega⟩, _, rfl, _, _, rfl, rfl, hm.1, ?_⟩
    exact q _ _ _ (Int.emod_nonneg _ (by omega)) (Int.emod_lt_of_pos _ hm.1)
def spPool (K : PySem.W.Frag) : Sp := fun vs H Q _ => ∃ (sc : Addr) (ns : List Int) (k : Int), vs = [.ref sc, .int k] ∧ SqL K H sc (ns.map V.int) ∧ ns.length ≤ 1000 ∧ (0 ≤ k ∧ k ≤ 100) ∧
  ∀ H' p a b, Same H H' → H p = none → H' p = some (.lst [.int a, .int b]) → Q (.ref p) H'
theorem none_back {H H' : Hp} {p : Addr} (R : Same H H') (h : H' p = none) : H p = none := by
  cases e : H p with
  | none => rfl
  | some o => rw [R _ _ e] at h; cases h
theorem first_int (ns : List Int) (lo hi : Option Int) : ∃ c, (cutV (ns.map V.int) lo hi ++ [V.int 0])[0]? = some (V.int c) := by
  have e : ∃ ms : List Int, cutV (ns.map V.int) lo hi = ms.map V.int := by
    unfold cutV
    exact ⟨(ns.drop (HT.sIx (ns.map V.int).length 0 lo)).take (HT.sIx (ns.map V.int).length (ns.map V.int).length hi - HT.sIx (ns.map V.int).length 0 lo), by rw [List.map_take, List.map_drop]⟩
  obtain ⟨ms, e⟩ := e
  rw [e]
  cases ms with
  | nil => exact ⟨0, rfl⟩
  | cons m ms => exact ⟨m, rfl⟩
theorem scPool : FnScope ["_law_script", "_law_k", "_law_cell", "_law_number", "_law_mixed"] ["_law_script", "_law_k"] (defScope sPool) := ⟨rfl, rfl, rfl, by decide +kernel, rfl, by decide +kernel, by decide +kernel⟩
theorem ok_pool (F : Fun K "_law_pool" "_law_pool" sPool f fd) (B : Bt mg) : FnOk P w K mg base CX0 1 f fd ["_law_script", "_law_k"] (spPool K) := by
  refine F.ok scPool (fun vs H Q E h => ?_) (fun cdv A outer s H vs Q E hr h => ?_)
  · obtain ⟨sc, ns, k, rfl, _⟩ := h
    rfl
  obtain ⟨sc, ns, k, rfl, hs, hl, hk, q⟩ := h
  refine ⟨_, pss_cons (ps_set (i := 2) scPool.nd rfl (Or.inl rfl) (pe_ix ix_list (pe_op op_cat (pe_slice sl_list (pv 0) (po_some (pv 1)) (po_some (pe_op op_add (pv 1) pe_int))) (pe_lst (pa_cons pe_int pa_nil))) pe_int (fun _ _ => rfl)))
    (pss_cons (ps_set (i := 3) scPool.nd rfl (Or.inl rfl) (pe_ifExp (pt_cmpR op_ge (pv 2) pe_int (nomark _)) (pv 2) (pe_op op_sub (pe_un un_neg pe_int) (pv 2))))
    (pss_cons (ps_set (i := 4) scPool.nd rfl (Or.inl rfl) (pe_op op_mod (pe_op op_mul (pe_callTy call_int1 (by rfl) B.int (by decide +kernel) (pa_cons
        (pe_op op_add (pe_op op_add (pe_op op_add (pe_op op_mod (pv 3) pe_int) (pe_op op_mul (pe_op op_mul pe_int (pv 1)) (pv 1))) (pe_op op_mul pe_int (pv 1))) pe_int) pa_nil)) pe_int) pe_int))
    (pss_one (ps_ret (pe_lst (pa_cons (pe_op op_mul (pv 3) (pe_callTy call_int1 (by rfl) B.int (by decide +kernel) (pa_cons (pe_cmpR op_ge (pv 3) (pe_op op_pow pe_int pe_int) (nomark _)) pa_nil)))
      (pa_cons (pe_op op_mod (pe_op op_mul (pv 4) (pv 4)) pe_int) pa_nil))))))), ?_⟩
  have sz : (10000 : Nat) ≤ sizeLine := by decide
  refine ⟨_, rfl, _, rfl, _, rfl, _, rfl, _, _, rfl, rfl, _, rfl, ?_⟩
  refine ⟨sc, _, rfl, hs, fun p1 np1 => ?_⟩
  refine ⟨by show 1 ≤ sizeLine; omega, fun p2 np2 => ?_⟩
  have cl := cutV_length (ns.map V.int) (some k) (some (k + 1))
  rw [List.length_map] at cl
  refine ⟨p1, p2, cutV (ns.map V.int) (some k) (some (k + 1)), [.int 0], rfl, rfl, ?_, upd_same, ?_, fun p3 np3 => ?_⟩
  · rw [upd_ne (ne_of_none upd_same np2)]; exact upd_same
  · show _ + 1 ≤ sizeLine
    omega
  obtain ⟨c, hc⟩ := first_int ns (some k) (some (k + 1))
  have R := (same_new np1 (.lst (cutV (ns.map V.int) (some k) (some (k + 1))))).trans ((same_new np2 (.lst [.int 0])).trans (same_new np3 (.lst (cutV (ns.map V.int) (some k) (some (k + 1)) ++ [.int 0]))))
  refine ⟨p3, _, 0, V.int c, rfl, rfl, .of upd_same, atI_nat (j := 0) hc, ?_⟩
  generalize upd (upd (upd H p1 _) p2 _) p3 _ = H3 at *
  refine ⟨_, rfl, _, _, rfl, rfl, _, rfl, ?_⟩
  by_cases c0 : 0 ≤ c
  · refine iteE c0 ⟨_, rfl, ?_⟩
    generalize c = n
    refine ⟨_, rfl, _, _, rfl, rfl, by omega, _, rfl, _, _, rfl, rfl, .inl (by omega), _, rfl, _, _, rfl, rfl, .inr (by omega), _, _, rfl, rfl, ?_⟩
    refine ⟨_, rfl, _, _, rfl, rfl, .inl (by omega), _, _, rfl, rfl, _, _, rfl, rfl, .inl ⟨_, rfl, _, _, rfl, rfl, .inr (by omega), _, _, rfl, rfl, by omega, ?_⟩⟩
    generalize hm : _ % (2147483647 : Int) = m
    have l1 := Int.emod_nonneg ((n % 2147483629 + 7919 * k * k + 31 * k + 17) * 48271) (show (2147483647 : Int) ≠ 0 by omega)
    have l2 := Int.emod_lt_of_pos ((n % 2147483629 + 7919 * k * k + 31 * k + 17) * 48271) (show (0 : Int) < 2147483647 by omega)
    rw [hm] at l1 l2
    refine ⟨_, rfl, _, rfl, _, _, rfl, rfl, ⟨by omega, by omega, by decide⟩, _, _, rfl, rfl, .inr ⟨_, rfl, _, _, rfl, rfl, .inr (by split <;> decide), ?_⟩⟩
    refine ⟨_, rfl, _, rfl, _, _, rfl, rfl, .inl (by omega), _, _, rfl, rfl, by omega, by show 2 ≤ sizeLine; omega, fun p np => ?_⟩
    exact q _ p _ _ (R.trans (same_new np _)) (none_back R np) upd_same
  · refine iteD c0 ⟨_, rfl, _, rfl, _, _, rfl, rfl, ?_⟩
    generalize (-1 - c : Int) = n
    refine ⟨_, rfl, _, _, rfl, rfl, by omega, _, rfl, _, _, rfl, rfl, .inl (by omega), _, rfl, _, _, rfl, rfl, .inr (by omega), _, _, rfl, rfl, ?_⟩
    refine ⟨_, rfl, _, _, rfl, rfl, .inl (by omega), _, _, rfl, rfl, _, _, rfl, rfl, .inl ⟨_, rfl, _, _, rfl, rfl, .inr (by omega), _, _, rfl, rfl, by omega, ?_⟩⟩
    generalize hm : _ % (2147483647 : Int) = m
    have l1 := Int.emod_nonneg ((n % 2147483629 + 7919 * k * k + 31 * k + 17) * 48271) (show (2147483647 : Int) ≠ 0 by omega)
    have l2 := Int.emod_lt_of_pos ((n % 2147483629 + 7919 * k * k + 31 * k + 17) * 48271) (show (0 : Int) < 2147483647 by omega)
    rw [hm] at l1 l2
    refine ⟨_, rfl, _, rfl, _, _, rfl, rfl, ⟨by omega, by omega, by decide⟩, _, _, rfl, rfl, .inr ⟨_, rfl, _, _, rfl, rfl, .inr (by split <;> decide), ?_⟩⟩
    refine ⟨_, rfl, _, rfl, _, _, rfl, rfl, .inl (by omega), _, _, rfl, rfl, by omega, by show 2 ≤ sizeLine; omega, fun p np => ?_⟩
    exact q _ p _ _ (R.trans (same_new np _)) (none_back R np) upd_same
end
end K46
/-! part W11 -/
set_option Elab.async false
set_option linter.all false
set_option maxRecDepth 100000
set_option maxHeartbeats 2000000
namespace K46
open PySem PySem.Spec PyProof.Rows L2 K46R
abbrev sTree : Stmt := top 38
/-- a tree, as it stands on the heap -/
def TAt (H : Hp) : Tr → V → Prop
  | .sil n, v => ∃ a, v = .ref a ∧ H a = some (.tup [.str ("silence" : Str), .int n])
  | .sam xs, v => ∃ a b, v = .ref a ∧ H a = some (.tup [.str ("samples" : Str), .ref b]) ∧ H b = some (.lst (xs.map V.int))
  | .part nm s e, v => ∃ a, v = .ref a ∧ H a = some (.tup [.str ("part" : Str), .str nm, .int s, .int e])
  | .sum x y, v => ∃ a u z, v = .ref a ∧ H a = some (.tup [.str ("sum" : Str), u, z]) ∧ TAt H x u ∧ TAt H y z
  | .times x n, v => ∃ a u, v = .ref a ∧ H a = some (.tup [.str ("times" : Str), u, .int n]) ∧ TAt H x u
  | .gain x t b, v => ∃ a u, v = .ref a ∧ H a = some (.tup [.str ("gain" : Str), u, .int t, .int b]) ∧ TAt H x u
  | .cut x t b, v => ∃ a u, v = .ref a ∧ H a = some (.tup [.str ("cut" : Str), u, .int t, .int b]) ∧ TAt H x u
theorem tat_mono {H H' : Hp} (e : Same H H') : ∀ (t : Tr) (v : V), TAt H t v → TAt H' t v
  | .sil n, v, h => by
    obtain ⟨a, rfl, h1⟩ := h
    exact ⟨a, rfl, e _ _ h1⟩
  | .sam xs, v, h => by
    obtain ⟨a, b, rfl, h1, h2⟩ := h
    exact ⟨a, b, rfl, e _ _ h1, e _ _ h2⟩
  | .part nm s e0, v, h => by
    obtain ⟨a, rfl, h1⟩ := h
    exact ⟨a, rfl, e _ _ h1⟩
  | .sum x y, v, h => by
    obtain ⟨a, u, z, rfl, h1, h2, h3⟩ := h
    exact ⟨a, u, z, rfl, e _ _ h1, tat_mono e x u h2, tat_mono e y z h3⟩
  | .times x n, v, h => by
    obtain ⟨a, u, rfl, h1, h2⟩ := h
    exact ⟨a, u, rfl, e _ _ h1, tat_mono e x u h2⟩
  | .gain x t b, v, h => by
    obtain ⟨a, u, rfl, h1, h2⟩ := h
    exact ⟨a, u, rfl, e _ _ h1, tat_mono e x u h2⟩
  | .cut x t b, v, h => by
    obtain ⟨a, u, rfl, h1, h2⟩ := h
    exact ⟨a, u, rfl, e _ _ h1, tat_mono e x u h2⟩
/-- the heap without the list at p -/
def hide (H : Hp) (p : Addr) : Hp := fun b => if b = p then none else H b
theorem hide_ne {H : Hp} {p b : Addr} (h : b ≠ p) : hide H p b = H b := if_neg h
theorem hide_at {H : Hp} {p : Addr} : hide H p p = none := if_pos rfl
theorem hide_le {H : Hp} {p : Addr} : Same (hide H p) H := fun b o e => by
  by_cases c : b = p
  · subst c; rw [hide_at] at e; cases e
  · rwa [hide_ne c] at e
theorem hide_mono {H H' : Hp} {p : Addr} (R : Same H H') : Same (hide H p) (hide H' p) := fun b o e => by
  by_cases c : b = p
  · subst c; rw [hide_at] at e; cases e
  · rw [hide_ne c] at e ⊢; exact R _ _ e
theorem hide_upd {H : Hp} {p : Addr} {o : HO} : hide (upd H p o) p = hide H p := funext fun b => by
  by_cases c : b = p
  · subst c; rw [hide_at, hide_at]
  · rw [hide_ne c, hide_ne c, upd_ne c]
def TwoAt (H : Hp) (p : Addr) : Prop := ∃ a b, H p = some (.lst [.int a, .int b])
structure PoolAt (p : Addr) (H H' : Hp) : Prop where
  two : TwoAt H' p
  keep : Same (hide H p) (hide H' p)
theorem PoolAt.trans {p : Addr} {H H1 H2 : Hp} (a : PoolAt p H H1) (b : PoolAt p H1 H2) : PoolAt p H H2 := ⟨b.two, a.keep.trans b.keep⟩
theorem PoolAt.refl {p : Addr} {H : Hp} (h : TwoAt H p) : PoolAt p H H := ⟨h, Same.refl _⟩
theorem PoolAt.ne {p q : Addr} {H H' : Hp} (a : PoolAt p H H') (h : H' q = none) : q ≠ p := by
  obtain ⟨_, _, e⟩ := a.two
  rintro rfl
  rw [e] at h; cases h
theorem PoolAt.new {p q : Addr} {H H' : Hp} {o : HO} (a : PoolAt p H H') (h : H' q = none) : PoolAt p H (upd H' q o) := by
  have ne := a.ne h
  obtain ⟨⟨x, y, e⟩, k⟩ := a
  refine ⟨⟨x, y, by rw [upd_ne ne.symm]; exact e⟩, ?_⟩
  exact k.trans (hide_mono (same_new h o))
theorem PoolAt.put {p q : Addr} {H H' : Hp} {o : HO} (a : PoolAt p H H') (ne : q ≠ p) (h : H q = none) : PoolAt p H (upd H' q o) := by
  obtain ⟨⟨x, y, e⟩, k⟩ := a
  refine ⟨⟨x, y, by rw [upd_ne ne.symm]; exact e⟩, fun b u e => ?_⟩
  have e2 := k b u e
  by_cases c : b = p
  · subst c; rw [hide_at] at e; cases e
  · rw [hide_ne c] at e e2 ⊢
    rw [upd_ne (ne_of_none e h)]; exact e2
theorem PoolAt.at_ {p q : Addr} {H H' : Hp} {o : HO} (a : PoolAt p H H') (ne : q ≠ p) (h : H q = some o) : H' q = some o := by
  have z := a.keep q o (by rw [hide_ne ne]; exact h)
  rwa [hide_ne ne] at z
theorem PoolAt.back {p q : Addr} {H H' : Hp} (a : PoolAt p H H') (h : H' q = none) : H q = none := by
  cases e : H q with
  | none => rfl
  | some o => rw [a.at_ (a.ne h) e] at h; cases h
theorem PoolAt.took {p : Addr} {H H' : Hp} (P : PoolAt p H H') (a b : Int) : PoolAt p H (upd H' p (.lst [.int a, .int b])) := ⟨⟨a, b, upd_same⟩, by rw [hide_upd]; exact P.keep⟩
theorem tok_sil {S : Snd} {d : Nat} {n : Int} (h : 0 ≤ n ∧ n ≤ 8) : tok S d (.sil n) := by cases d <;> exact h
theorem tok_sam {S : Snd} {d : Nat} {xs : List Int} (h : xs.length ≤ 5) : tok S d (.sam xs) := by cases d <;> exact h
theorem tok_part {S : Snd} {d : Nat} {nm : Str} {s e : Int} (h : (nm = sA ∨ nm = sB) ∧ 0 ≤ s ∧ s ≤ e ∧ e ≤ ((S nm).length : Int)) : tok S d (.part nm s e) := by cases d <;> exact h
abbrev lensOf (S : Snd) : List (Key × V) := [(Sum.inr sA, .int ((S sA).length : Nat)), (Sum.inr sB, .int ((S sB).length : Nat))]
def spClip (K : PySem.W.Frag) (n : Nat) : Sp := fun vs H Q _ => ∃ (S : Snd) (p ld : Addr) (d : Int), vs = [.ref p, .int d, .ref ld] ∧ (0 ≤ d ∧ d < n) ∧ TwoAt H p ∧ H ld = some (.dK (lensOf S)) ∧ (∀ nm, (S nm).length ≤ 14) ∧
  ∀ H' v t, PoolAt p H H' → TAt (hide H' p) t v → tok S d.toNat t → Q v H'
theorem len_get {H : Hp} {ld : Addr} {S : Snd} {nm : Str} (h : H ld = some (.dK (lensOf S))) (hn : nm = sA ∨ nm = sB) : DGet H ld (.str nm) (some (.int ((S nm).length : Nat))) := by
  rcases hn with rfl | rfl
  · exact DGet.k (k := Sum.inr sA) h
  · have e : valV (lensOf S) (Sum.inr sB) = some (.int ((S sB).length : Nat)) := by
      have ne : ¬ (Sum.inr sA : Key) = Sum.inr sB := fun e => absurd (Sum.inr.inj e) (by decide +kernel)
      rw [valV_neg ne, valV_pos rfl]
    have z := DGet.k (k := Sum.inr sB) h
    rw [e] at z
    exact z
theorem sign_ab {d : Int} (h0 : 0 ≤ d) (h1 : d < 2) : ∃ c nm, atI ("ab" : Str).cps.toList d = some c ∧ (⟨#[c]⟩ : Str) = nm ∧ (nm = sA ∨ nm = sB) := by
  rcases (show d = 0 ∨ d = 1 by omega) with rfl | rfl
  · exact ⟨97, sA, by decide +kernel, by decide +kernel, .inl rfl⟩
  · exact ⟨98, sB, by decide +kernel, by decide +kernel, .inr rfl⟩
section
variable {P : Program} {w : World} {K : PySem.W.Frag} {mg : Str → Option Value} {base : Heap} {f : Addr} {fd : FuncData}
theorem scTree : FnScope ["_law_pool_here", "_law_depth", "_law_lengths", "_law_way", "_law_kind", "_law_name", "_law_start", "_law_first", "_law_turn"] ["_law_pool_here", "_law_depth", "_law_lengths"] (defScope sTree) := ⟨rfl, rfl, rfl, by decide +kernel, rfl, by decide +kernel, by decide +kernel⟩
theorem ok_tree {n : Nat} {g1 g2 : Addr} {d1 d2 : FuncData} (F : Fun K "_law_clip" "_law_clip" sTree f fd) (B : Bt mg)
    (D1 : Df K mg "_law_take" sTake ["_law_pool_here", "_law_many"] g1 d1) (G1 : FnOk P w K mg base CX0 1 g1 d1 ["_law_pool_here", "_law_many"] spTake)
    (D2 : Df K mg "_law_clip" sTree ["_law_pool_here", "_law_depth", "_law_lengths"] g2 d2) (G2 : FnOk P w K mg base CX0 (n + 1) g2 d2 ["_law_pool_here", "_law_depth", "_law_lengths"] (spClip K n)) :
    FnOk P w K mg base CX0 (n + 2) f fd ["_law_pool_here", "_law_depth", "_law_lengths"] (spClip K (n + 1)) := by
  refine F.ok scTree (fun vs H Q E h => ?_) (fun cdv A outer s H vs Q E hr h => ?_)
  · obtain ⟨S, p, ld, d, rfl, _⟩ := h
    rfl
  obtain ⟨S, p, ld, d, rfl, hd, hp, hl, hS, q⟩ := h
  have hu := hu_of hr
  have hr1 : Room 1 _ := hr.mono (by omega)
  have sz : (10000 : Nat) ≤ sizeLine := by decide
  refine ⟨_, pss_cons (ps_set (i := 3) scTree.nd rfl (Or.inl rfl) (pe_call G1 hr1 rfl D1.mg D1.fn.kp D1.bd .nil pass0 (pa_cons (pv 0) (pa_cons pe_int pa_nil))))
    (pss_cons (ps_if (PW.pt (pw_or (pt_cmpR op_eq (pv 1) pe_int (nomark _)) (pw_or1 (pt_cmpR op_lt (pv 3) pe_int (nomark _)))))
      (pss_cons (ps_set (i := 4) scTree.nd rfl (Or.inl rfl) (pe_call G1 hr1 rfl D1.mg D1.fn.kp D1.bd .nil pass0 (pa_cons (pv 0) (pa_cons pe_int pa_nil))))
      (pss_cons (ps_if (pt_cmpR op_eq (pv 4) pe_int (nomark _)) (pss_one (ps_ret (pe_tup (pa_cons pe_str (pa_cons (pe_call G1 hr1 rfl D1.mg D1.fn.kp D1.bd .nil pass0 (pa_cons (pv 0) (pa_cons pe_int pa_nil))) pa_nil))))) pss_nil)
      (pss_cons (ps_if (pt_cmpR op_eq (pv 4) pe_int (nomark _)) (pss_one (ps_ret (pe_tup (pa_cons pe_str (pa_cons
          (pe_lc (own := [("_law_turn", 8)]) (g := gName 8) (tt := tYes) rfl scTree.nd (pi_range1 (by rfl) B.range (pa_cons (pe_call G1 hr1 rfl D1.mg D1.fn.kp D1.bd .nil pass0 (pa_cons (pv 0) (pa_cons pe_int pa_nil))) pa_nil))
            (blkOk_by (N := ["_law_pool_here", "_law_depth", "_law_lengths", "_law_way", "_law_kind", "_law_name", "_law_start", "_law_first", "_law_turn"]) (sc := defScope sTree) (by decide +kernel))
            (fun _ _ _ _ _ => pg_name (i := 8) scTree.nd rfl (Or.inl rfl)) (fun _ _ _ _ _ => pts_nil) (fun _ _ _ _ _ => pe_op op_sub (pe_call G1 hr1 rfl D1.mg D1.fn.kp D1.bd .nil pass0 (pa_cons (pv 0) (pa_cons pe_int pa_nil))) pe_int)) pa_nil))))) pss_nil)
      (pss_cons (ps_set (i := 5) scTree.nd rfl (Or.inl rfl) (pe_ix ix_str pe_str (pe_call G1 hr1 rfl D1.mg D1.fn.kp D1.bd .nil pass0 (pa_cons (pv 0) (pa_cons pe_int pa_nil))) (fun _ _ => rfl)))
      (pss_cons (ps_set (i := 6) scTree.nd rfl (Or.inl rfl) (pe_call G1 hr1 rfl D1.mg D1.fn.kp D1.bd .nil pass0 (pa_cons (pv 0) (pa_cons (pe_op op_add (pe_dget hu (pv 2) (pv 5) (fun _ _ => rfl)) pe_int) pa_nil))))
      (pss_one (ps_ret (pe_tup (pa_cons pe_str (pa_cons (pv 5) (pa_cons (pv 6) (pa_cons (pe_op op_add (pv 6) (pe_call G1 hr1 rfl D1.mg D1.fn.kp D1.bd .nil pass0 (pa_cons (pv 0) (pa_cons (pe_op op_add (pe_op op_sub (pe_dget hu (pv 2) (pv 5) (fun _ _ => rfl)) (pv 6)) pe_int) pa_nil)))) pa_nil))))))))))))
      pss_nil)
    (pss_cons (ps_set (i := 7) scTree.nd rfl (Or.inl rfl) (pe_call G2 hr rfl D2.mg D2.fn.kp D2.bd .nil pass0 (pa_cons (pv 0) (pa_cons (pe_op op_sub (pv 1) pe_int) (pa_cons (pv 2) pa_nil)))))
    (pss_cons (ps_if (pt_cmpR op_lt (pv 3) pe_int (nomark _)) (pss_one (ps_ret (pe_tup (pa_cons pe_str (pa_cons (pv 7) (pa_cons (pe_call G2 hr rfl D2.mg D2.fn.kp D2.bd .nil pass0 (pa_cons (pv 0) (pa_cons (pe_op op_sub (pv 1) pe_int) (pa_cons (pv 2) pa_nil)))) pa_nil)))))) pss_nil)
    (pss_cons (ps_if (pt_cmpR op_lt (pv 3) pe_int (nomark _)) (pss_one (ps_ret (pe_tup (pa_cons pe_str (pa_cons (pv 7) (pa_cons (pe_call G1 hr1 rfl D1.mg D1.fn.kp D1.bd .nil pass0 (pa_cons (pv 0) (pa_cons pe_int pa_nil))) pa_nil)))))) pss_nil)
    (pss_cons (ps_if (pt_cmpR op_eq (pv 3) pe_int (nomark _)) (pss_one (ps_ret (pe_tup (pa_cons pe_str (pa_cons (pv 7) (pa_cons (pe_op op_sub (pe_call G1 hr1 rfl D1.mg D1.fn.kp D1.bd .nil pass0 (pa_cons (pv 0) (pa_cons pe_int pa_nil))) pe_int) (pa_cons (pe_op op_add pe_int (pe_call G1 hr1 rfl D1.mg D1.fn.kp D1.bd .nil pass0 (pa_cons (pv 0) (pa_cons pe_int pa_nil)))) pa_nil))))))) pss_nil)
    (pss_one (ps_ret (pe_tup (pa_cons pe_str (pa_cons (pv 7) (pa_cons (pe_call G1 hr1 rfl D1.mg D1.fn.kp D1.bd .nil pass0 (pa_cons (pv 0) (pa_cons pe_int pa_nil))) (pa_cons (pe_call G1 hr1 rfl D1.mg D1.fn.kp D1.bd .nil pass0 (pa_cons (pv 0) (pa_cons pe_int pa_nil))) pa_nil)))))))))))), ?_⟩
  have hlp : ld ≠ p := by
    obtain ⟨_, _, e⟩ := hp
    rintro rfl
    rw [e] at hl; cases hl
  --BODY
  have PH := PoolAt.refl hp
  obtain ⟨a1, b1, e1⟩ := PH.two
  refine ⟨_, rfl, p, a1, b1, _, rfl, e1, ⟨by omega, by omega⟩, fun x1 y1 m1 l1 u1 => ?_⟩
  have P1 := PH.took x1 y1
  generalize hg : upd _ p (.lst [.int x1, .int y1]) = H1 at P1 ⊢
  clear hg
  refine ⟨_, rfl, rfl, _, rfl, ?_⟩
  by_cases c0 : d = 0
  · refine iteE (congrArg V.int c0) (iteT ?_)
    obtain ⟨a2, b2, e2⟩ := P1.two
    refine ⟨_, rfl, p, a2, b2, _, rfl, e2, ⟨by omega, by omega⟩, fun x2 y2 m2 l2 u2 => ?_⟩
    have P2 := P1.took x2 y2
    generalize hg : upd _ p (.lst [.int x2, .int y2]) = H2 at P2 ⊢
    clear hg
    refine ⟨_, rfl, rfl, _, rfl, ?_⟩
    by_cases k0 : m2 = 0
    · refine iteE (congrArg V.int k0) ?_
      obtain ⟨a3, b3, e3⟩ := P2.two
      refine ⟨_, rfl, p, a3, b3, _, rfl, e3, ⟨by omega, by omega⟩, fun x3 y3 m3 l3 u3 => ?_⟩
      have P3 := P2.took x3 y3
      generalize hg : upd _ p (.lst [.int x3, .int y3]) = H3 at P3 ⊢
      clear hg
      refine ⟨by show 2 ≤ sizeLine; omega, fun r nr => ?_⟩
      have ht : ∀ o : HO, hide (upd H3 r o) p r = some o := fun o => (hide_ne (P3.ne nr)).trans upd_same
      exact q _ _ (.sil m3) (P3.new nr) ⟨_, rfl, ht _⟩ (tok_sil (by omega))
    refine iteD (fun e => k0 (V.int.inj e)) ?_
    refine ⟨_, rfl, rfl, _, rfl, ?_⟩
    by_cases k1 : m2 = 1
    · refine iteE (congrArg V.int k1) ?_
      obtain ⟨a3, b3, e3⟩ := P2.two
      refine ⟨_, rfl, p, a3, b3, _, rfl, e3, ⟨by omega, by omega⟩, fun x3 y3 m3 l3 u3 => ?_⟩
      have P3 := P2.took x3 y3
      generalize hg : upd _ p (.lst [.int x3, .int y3]) = H3 at P3 ⊢
      clear hg
      refine ⟨_, rfl, by omega, by omega, fun D nD => ?_⟩
      have nDp := P3.ne nD
      have nD0 := P3.back nD
      refine lc_range (fun i H' => PoolAt p H H' ∧ ∃ ns : List Int, ns.length = i ∧ H' D = some (.lst (ns.map V.int))) ⟨P3.new nD, [], rfl, upd_same⟩ ?_ ?_
      · rintro i H4 hi ⟨P4, ns, en, eD⟩
        refine ⟨rfl, ?_⟩
        obtain ⟨a5, b5, e5⟩ := P4.two
        refine ⟨_, rfl, p, a5, b5, _, rfl, e5, ⟨by omega, by omega⟩, fun x5 y5 m5 l5 u5 => ?_⟩
        have P5 := P4.took x5 y5
        have eD5 := (upd_ne (o := .lst [.int x5, .int y5]) nDp).trans eD
        refine ⟨_, _, rfl, rfl, _, eD5, by rw [List.length_map]; omega, P5.put nDp nD0, ns ++ [m5 - 9], by rw [List.length_append, en]; rfl, by rw [upd_same, List.map_append]; rfl⟩
      · rintro H4 ⟨P4, ns, en, eD⟩
        refine ⟨by show 2 ≤ sizeLine; omega, fun r nr => ?_⟩
        have ht : ∀ o : HO, hide (upd H4 r o) p r = some o := fun o => (hide_ne (P4.ne nr)).trans upd_same
        have hD := (hide_ne (p := p) nDp).trans (same_new nr (.tup [.str ("samples" : Str), .ref D]) _ _ eD)
        exact q _ _ (.sam ns) (P4.new nr) ⟨_, _, rfl, ht _, hD⟩ (tok_sam (by omega))
    refine iteD (fun e => k1 (V.int.inj e)) ?_
    obtain ⟨a3, b3, e3⟩ := P2.two
    refine ⟨_, rfl, p, a3, b3, _, rfl, e3, ⟨by omega, by omega⟩, fun x3 y3 m3 l3 u3 => ?_⟩
    have P3 := P2.took x3 y3
    generalize hg : upd _ p (.lst [.int x3, .int y3]) = H3 at P3 ⊢
    clear hg
    obtain ⟨c, nm, ec, en, hn⟩ := sign_ab l3 u3
    refine ⟨_, _, c, rfl, rfl, by decide, ec, ?_⟩
    rw [en]
    clear en ec
    have sn := hS nm
    obtain ⟨a4, b4, e4⟩ := P3.two
    refine ⟨_, rfl, _, rfl, _, rfl, ld, _, rfl, len_get (P3.at_ hlp hl) hn, _, _, rfl, rfl, p, a4, b4, _, rfl, e4, ⟨by omega, by omega⟩, fun x4 y4 m4 l4 u4 => ?_⟩
    have P4 := P3.took x4 y4
    generalize hg : upd _ p (.lst [.int x4, .int y4]) = H4 at P4 ⊢
    clear hg
    obtain ⟨a5, b5, e5⟩ := P4.two
    refine ⟨_, rfl, _, rfl, _, rfl, _, rfl, _, rfl, _, rfl, ld, _, rfl, len_get (P4.at_ hlp hl) hn, _, rfl, _, _, rfl, rfl, _, _, rfl, rfl, p, a5, b5, _, rfl, e5, ⟨by omega, by omega⟩, fun x5 y5 m5 l5 u5 => ?_⟩
    have P5 := P4.took x5 y5
    generalize hg : upd _ p (.lst [.int x5, .int y5]) = H5 at P5 ⊢
    clear hg
    refine ⟨_, _, rfl, rfl, ?_⟩
    refine ⟨by show 4 ≤ sizeLine; omega, fun r nr => ?_⟩
    have ht : ∀ o : HO, hide (upd H5 r o) p r = some o := fun o => (hide_ne (P5.ne nr)).trans upd_same
    exact q _ _ (.part nm m4 (m4 + m5)) (P5.new nr) ⟨_, rfl, ht _⟩ (tok_part ⟨hn, l4, by omega, by omega⟩)
  refine iteD (fun e => c0 (V.int.inj e)) ⟨_, rfl, _, _, rfl, rfl, _, rfl, ?_⟩
  by_cases c1 : m1 < 3
  · refine iteE c1 ?_
    obtain ⟨a2, b2, e2⟩ := P1.two
    refine ⟨_, rfl, p, a2, b2, _, rfl, e2, ⟨by omega, by omega⟩, fun x2 y2 m2 l2 u2 => ?_⟩
    have P2 := P1.took x2 y2
    generalize hg : upd _ p (.lst [.int x2, .int y2]) = H2 at P2 ⊢
    clear hg
    refine ⟨_, rfl, rfl, _, rfl, ?_⟩
    by_cases k0 : m2 = 0
    · refine iteE (congrArg V.int k0) ?_
      obtain ⟨a3, b3, e3⟩ := P2.two
      refine ⟨_, rfl, p, a3, b3, _, rfl, e3, ⟨by omega, by omega⟩, fun x3 y3 m3 l3 u3 => ?_⟩
      have P3 := P2.took x3 y3
      generalize hg : upd _ p (.lst [.int x3, .int y3]) = H3 at P3 ⊢
      clear hg
      refine ⟨by show 2 ≤ sizeLine; omega, fun r nr => ?_⟩
      have ht : ∀ o : HO, hide (upd H3 r o) p r = some o := fun o => (hide_ne (P3.ne nr)).trans upd_same
      exact q _ _ (.sil m3) (P3.new nr) ⟨_, rfl, ht _⟩ (tok_sil (by omega))
    refine iteD (fun e => k0 (V.int.inj e)) ?_
    refine ⟨_, rfl, rfl, _, rfl, ?_⟩
    by_cases k1 : m2 = 1
    · refine iteE (congrArg V.int k1) ?_
      obtain ⟨a3, b3, e3⟩ := P2.two
      refine ⟨_, rfl, p, a3, b3, _, rfl, e3, ⟨by omega, by omega⟩, fun x3 y3 m3 l3 u3 => ?_⟩
      have P3 := P2.took x3 y3
      generalize hg : upd _ p (.lst [.int x3, .int y3]) = H3 at P3 ⊢
      clear hg
      refine ⟨_, rfl, by omega, by omega, fun D nD => ?_⟩
      have nDp := P3.ne nD
      have nD0 := P3.back nD
      refine lc_range (fun i H' => PoolAt p H H' ∧ ∃ ns : List Int, ns.length = i ∧ H' D = some (.lst (ns.map V.int))) ⟨P3.new nD, [], rfl, upd_same⟩ ?_ ?_
      · rintro i H4 hi ⟨P4, ns, en, eD⟩
        refine ⟨rfl, ?_⟩
        obtain ⟨a5, b5, e5⟩ := P4.two
        refine ⟨_, rfl, p, a5, b5, _, rfl, e5, ⟨by omega, by omega⟩, fun x5 y5 m5 l5 u5 => ?_⟩
        have P5 := P4.took x5 y5
        have eD5 := (upd_ne (o := .lst [.int x5, .int y5]) nDp).trans eD
        refine ⟨_, _, rfl, rfl, _, eD5, by rw [List.length_map]; omega, P5.put nDp nD0, ns ++ [m5 - 9], by rw [List.length_append, en]; rfl, by rw [upd_same, List.map_append]; rfl⟩
      · rintro H4 ⟨P4, ns, en, eD⟩
        refine ⟨by show 2 ≤ sizeLine; omega, fun r nr => ?_⟩
        have ht : ∀ o : HO, hide (upd H4 r o) p r = some o := fun o => (hide_ne (P4.ne nr)).trans upd_same
        have hD := (hide_ne (p := p) nDp).trans (same_new nr (.tup [.str ("samples" : Str), .ref D]) _ _ eD)
        exact q _ _ (.sam ns) (P4.new nr) ⟨_, _, rfl, ht _, hD⟩ (tok_sam (by omega))
    refine iteD (fun e => k1 (V.int.inj e)) ?_
    obtain ⟨a3, b3, e3⟩ := P2.two
    refine ⟨_, rfl, p, a3, b3, _, rfl, e3, ⟨by omega, by omega⟩, fun x3 y3 m3 l3 u3 => ?_⟩
    have P3 := P2.took x3 y3
    generalize hg : upd _ p (.lst [.int x3, .int y3]) = H3 at P3 ⊢
    clear hg
    obtain ⟨c, nm, ec, en, hn⟩ := sign_ab l3 u3
    refine ⟨_, _, c, rfl, rfl, by decide, ec, ?_⟩
    rw [en]
    clear en ec
    have sn := hS nm
    obtain ⟨a4, b4, e4⟩ := P3.two
    refine ⟨_, rfl, _, rfl, _, rfl, ld, _, rfl, len_get (P3.at_ hlp hl) hn, _, _, rfl, rfl, p, a4, b4, _, rfl, e4, ⟨by omega, by omega⟩, fun x4 y4 m4 l4 u4 => ?_⟩
    have P4 := P3.took x4 y4
    generalize hg : upd _ p (.lst [.int x4, .int y4]) = H4 at P4 ⊢
    clear hg
    obtain ⟨a5, b5, e5⟩ := P4.two
    refine ⟨_, rfl, _, rfl, _, rfl, _, rfl, _, rfl, _, rfl, ld, _, rfl, len_get (P4.at_ hlp hl) hn, _, rfl, _, _, rfl, rfl, _, _, rfl, rfl, p, a5, b5, _, rfl, e5, ⟨by omega, by omega⟩, fun x5 y5 m5 l5 u5 => ?_⟩
    have P5 := P4.took x5 y5
    generalize hg : upd _ p (.lst [.int x5, .int y5]) = H5 at P5 ⊢
    clear hg
    refine ⟨_, _, rfl, rfl, ?_⟩
    refine ⟨by show 4 ≤ sizeLine; omega, fun r nr => ?_⟩
    have ht : ∀ o : HO, hide (upd H5 r o) p r = some o := fun o => (hide_ne (P5.ne nr)).trans upd_same
    exact q _ _ (.part nm m4 (m4 + m5)) (P5.new nr) ⟨_, rfl, ht _⟩ (tok_part ⟨hn, l4, by omega, by omega⟩)
  refine iteD c1 ?_
  have hdn : d.toNat = (d - 1).toNat + 1 := by omega
  refine ⟨_, rfl, _, rfl, _, _, rfl, rfl, _, rfl, S, p, ld, _, rfl, ⟨by omega, by omega⟩, P1.two, P1.at_ hlp hl, hS, fun H2 v2 t2 Q2 k2 z2 => ?_⟩
  have P2 := P1.trans Q2
  refine ⟨_, rfl, _, _, rfl, rfl, _, rfl, ?_⟩
  by_cases w1 : m1 < 5
  · refine iteE w1 ?_
    refine ⟨_, rfl, _, rfl, _, rfl, _, _, rfl, rfl, _, rfl, S, p, ld, _, rfl, ⟨by omega, by omega⟩, P2.two, P2.at_ hlp hl, hS, fun H3 v3 t3 Q3 k3 z3 => ?_⟩
    have P3 := P2.trans Q3
    refine ⟨by show 3 ≤ sizeLine; omega, fun r nr => ?_⟩
    have ht : ∀ o : HO, hide (upd H3 r o) p r = some o := fun o => (hide_ne (P3.ne nr)).trans upd_same
    have S4 := hide_mono (p := p) (same_new nr (.tup [.str ("sum" : Str), v2, v3]))
    refine q _ _ (.sum t2 t3) (P3.new nr) ⟨_, _, _, rfl, ht _, tat_mono (Q3.keep.trans S4) _ _ k2, tat_mono S4 _ _ k3⟩ ?_
    rw [hdn]
    exact ⟨z2, z3⟩
  refine iteD w1 ⟨_, rfl, _, _, rfl, rfl, _, rfl, ?_⟩
  by_cases w2 : m1 < 7
  · refine iteE w2 ?_
    obtain ⟨a3, b3, e3⟩ := P2.two
    refine ⟨_, rfl, _, rfl, p, a3, b3, _, rfl, e3, ⟨by omega, by omega⟩, fun x3 y3 m3 l3 u3 => ?_⟩
    have P3 := P2.took x3 y3
    have R3 := (PoolAt.refl P2.two).took x3 y3
    generalize hg : upd _ p (.lst [.int x3, .int y3]) = H3 at P3 R3 ⊢
    clear hg
    refine ⟨by show 3 ≤ sizeLine; omega, fun r nr => ?_⟩
    have ht : ∀ o : HO, hide (upd H3 r o) p r = some o := fun o => (hide_ne (P3.ne nr)).trans upd_same
    have S4 := hide_mono (p := p) (same_new nr (.tup [.str ("times" : Str), v2, .int m3]))
    refine q _ _ (.times t2 m3) (P3.new nr) ⟨_, _, rfl, ht _, tat_mono (R3.keep.trans S4) _ _ k2⟩ ?_
    rw [hdn]
    exact ⟨z2, by omega, by omega⟩
  refine iteD w2 ⟨_, rfl, rfl, _, rfl, ?_⟩
  by_cases w3 : m1 = 7
  · refine iteE (congrArg V.int w3) ?_
    obtain ⟨a3, b3, e3⟩ := P2.two
    refine ⟨_, rfl, _, rfl, p, a3, b3, _, rfl, e3, ⟨by omega, by omega⟩, fun x3 y3 m3 l3 u3 => ?_⟩
    have P3 := P2.took x3 y3
    have R3 := (PoolAt.refl P2.two).took x3 y3
    generalize hg : upd _ p (.lst [.int x3, .int y3]) = H3 at P3 R3 ⊢
    clear hg
    obtain ⟨a4, b4, e4⟩ := P3.two
    refine ⟨_, _, rfl, rfl, _, rfl, p, a4, b4, _, rfl, e4, ⟨by omega, by omega⟩, fun x4 y4 m4 l4 u4 => ?_⟩
    have P4 := P3.took x4 y4
    have R4 := R3.took x4 y4
    generalize hg : upd _ p (.lst [.int x4, .int y4]) = H4 at P4 R4 ⊢
    clear hg
    refine ⟨_, _, rfl, rfl, ?_⟩
    refine ⟨by show 4 ≤ sizeLine; omega, fun r nr => ?_⟩
    have ht : ∀ o : HO, hide (upd H4 r o) p r = some o := fun o => (hide_ne (P4.ne nr)).trans upd_same
    have S4 := hide_mono (p := p) (same_new nr (.tup [.str ("gain" : Str), v2, .int (m3 - 4), .int (1 + m4)]))
    refine q _ _ (.gain t2 (m3 - 4) (1 + m4)) (P4.new nr) ⟨_, _, rfl, ht _, tat_mono (R4.keep.trans S4) _ _ k2⟩ ?_
    rw [hdn]
    exact ⟨z2, ⟨by omega, by omega⟩, by omega, by omega⟩
  refine iteD (fun e => w3 (V.int.inj e)) ?_
  obtain ⟨a3, b3, e3⟩ := P2.two
  refine ⟨_, rfl, _, rfl, p, a3, b3, _, rfl, e3, ⟨by omega, by omega⟩, fun x3 y3 m3 l3 u3 => ?_⟩
  have P3 := P2.took x3 y3
  have R3 := (PoolAt.refl P2.two).took x3 y3
  generalize hg : upd _ p (.lst [.int x3, .int y3]) = H3 at P3 R3 ⊢
  clear hg
  obtain ⟨a4, b4, e4⟩ := P3.two
  refine ⟨_, rfl, p, a4, b4, _, rfl, e4, ⟨by omega, by omega⟩, fun x4 y4 m4 l4 u4 => ?_⟩
  have P4 := P3.took x4 y4
  have R4 := R3.took x4 y4
  generalize hg : upd _ p (.lst [.int x4, .int y4]) = H4 at P4 R4 ⊢
  clear hg
  refine ⟨by show 4 ≤ sizeLine; omega, fun r nr => ?_⟩
  have ht : ∀ o : HO, hide (upd H4 r o) p r = some o := fun o => (hide_ne (P4.ne nr)).trans upd_same
  have S4 := hide_mono (p := p) (same_new nr (.tup [.str ("cut" : Str), v2, .int m3, .int m4]))
  refine q _ _ (.cut t2 m3 m4) (P4.new nr) ⟨_, _, rfl, ht _, tat_mono (R4.keep.trans S4) _ _ k2⟩ ?_
  rw [hdn]
  exact ⟨z2, ⟨by omega, by omega⟩, by omega, by omega⟩
end
end K46
/-! part W12 -/
set_option Elab.async false
set_option linter.all false
set_option maxRecDepth 100000
set_option maxHeartbeats 2000000
namespace K46
open PySem PySem.Spec PyProof.Rows L2 K46R
abbrev sPlain : Stmt := top 39
section
variable {K : PySem.W.Frag} {H : Hp} {v : V}
theorem at_tsil {n : Int} (h : TAt H (.sil n) v) : ∃ a, v = .ref a ∧ SqT K H a [.str ("silence" : Str), .int n] := by
  obtain ⟨a, rfl, h1⟩ := h
  exact ⟨a, rfl, SqT.of h1⟩
theorem at_tsam {ns : List Int} (h : TAt H (.sam ns) v) : ∃ a b, v = .ref a ∧ SqT K H a [.str ("samples" : Str), .ref b] ∧ H b = some (.lst (ns.map V.int)) := by
  obtain ⟨a, b, rfl, h1, h2⟩ := h
  exact ⟨a, b, rfl, SqT.of h1, h2⟩
theorem at_tpart {nm : Str} {s e : Int} (h : TAt H (.part nm s e) v) : ∃ a, v = .ref a ∧ SqT K H a [.str ("part" : Str), .str nm, .int s, .int e] := by
  obtain ⟨a, rfl, h1⟩ := h
  exact ⟨a, rfl, SqT.of h1⟩
theorem at_tsum {x y : Tr} (h : TAt H (.sum x y) v) : ∃ a u z, v = .ref a ∧ SqT K H a [.str ("sum" : Str), u, z] ∧ TAt H x u ∧ TAt H y z := by
  obtain ⟨a, u, z, rfl, h1, h2, h3⟩ := h
  exact ⟨a, u, z, rfl, SqT.of h1, h2, h3⟩
theorem at_ttimes {x : Tr} {n : Int} (h : TAt H (.times x n) v) : ∃ a u, v = .ref a ∧ SqT K H a [.str ("times" : Str), u, .int n] ∧ TAt H x u := by
  obtain ⟨a, u, rfl, h1, h2⟩ := h
  exact ⟨a, u, rfl, SqT.of h1, h2⟩
theorem at_tgain {x : Tr} {t b : Int} (h : TAt H (.gain x t b) v) : ∃ a u, v = .ref a ∧ SqT K H a [.str ("gain" : Str), u, .int t, .int b] ∧ TAt H x u := by
  obtain ⟨a, u, rfl, h1, h2⟩ := h
  exact ⟨a, u, rfl, SqT.of h1, h2⟩
theorem at_tcut {x : Tr} {t b : Int} (h : TAt H (.cut x t b) v) : ∃ a u, v = .ref a ∧ SqT K H a [.str ("cut" : Str), u, .int t, .int b] ∧ TAt H x u := by
  obtain ⟨a, u, rfl, h1, h2⟩ := h
  exact ⟨a, u, rfl, SqT.of h1, h2⟩
end
theorem sum_sil : ¬ V.str ("sum" : Str) = V.str ("silence" : Str) := vne (by decide +kernel)
theorem sum_sam : ¬ V.str ("sum" : Str) = V.str ("samples" : Str) := vne (by decide +kernel)
theorem sum_part : ¬ V.str ("sum" : Str) = V.str ("part" : Str) := vne (by decide +kernel)
theorem tim_sil : ¬ V.str ("times" : Str) = V.str ("silence" : Str) := vne (by decide +kernel)
theorem tim_sam : ¬ V.str ("times" : Str) = V.str ("samples" : Str) := vne (by decide +kernel)
theorem tim_part : ¬ V.str ("times" : Str) = V.str ("part" : Str) := vne (by decide +kernel)
theorem tim_sum : ¬ V.str ("times" : Str) = V.str ("sum" : Str) := vne (by decide +kernel)
theorem gai_sil : ¬ V.str ("gain" : Str) = V.str ("silence" : Str) := vne (by decide +kernel)
theorem gai_sam : ¬ V.str ("gain" : Str) = V.str ("samples" : Str) := vne (by decide +kernel)
theorem gai_part : ¬ V.str ("gain" : Str) = V.str ("part" : Str) := vne (by decide +kernel)
theorem gai_sum : ¬ V.str ("gain" : Str) = V.str ("sum" : Str) := vne (by decide +kernel)
theorem gai_tim : ¬ V.str ("gain" : Str) = V.str ("times" : Str) := vne (by decide +kernel)
theorem cut_sil : ¬ V.str ("cut" : Str) = V.str ("silence" : Str) := vne (by decide +kernel)
theorem cut_sam : ¬ V.str ("cut" : Str) = V.str ("samples" : Str) := vne (by decide +kernel)
theorem cut_part : ¬ V.str ("cut" : Str) = V.str ("part" : Str) := vne (by decide +kernel)
theorem cut_sum : ¬ V.str ("cut" : Str) = V.str ("sum" : Str) := vne (by decide +kernel)
theorem cut_tim : ¬ V.str ("cut" : Str) = V.str ("times" : Str) := vne (by decide +kernel)
theorem cut_gai : ¬ V.str ("cut" : Str) = V.str ("gain" : Str) := vne (by decide +kernel)
theorem part_sil2 : ¬ V.str ("part" : Str) = V.str ("silence" : Str) := vne (by decide +kernel)
theorem part_sam2 : ¬ V.str ("part" : Str) = V.str ("samples" : Str) := vne (by decide +kernel)
theorem sam_sil2 : ¬ V.str ("samples" : Str) = V.str ("silence" : Str) := vne (by decide +kernel)
theorem sort2 {ns : List Int} {x y : Int} (h : ns.Perm [x, y]) (hp : ns.Pairwise (· ≤ ·)) : ns = [min x y, max x y] := by
  have hl := h.length_eq
  match ns, hl, h, hp with
  | [u, z], _, h, hp =>
    have a1 := (h.mem_iff (a := u)).mp (by simp)
    have a2 := (h.mem_iff (a := z)).mp (by simp)
    have a3 := (h.mem_iff (a := x)).mpr (by simp)
    have a4 := (h.mem_iff (a := y)).mpr (by simp)
    have a5 : u ≤ z := by simpa using hp
    simp only [List.mem_cons, List.not_mem_nil, or_false] at a1 a2 a3 a4
    have e1 : u = min x y := by omega
    have e2 : z = max x y := by omega
    rw [e1, e2]
theorem tb_le {d : Nat} (h : d ≤ 4) : tb d ≤ 1134 := by
  match d, h with
  | 0, _ => simp [tb]
  | 1, _ => simp [tb]
  | 2, _ => simp [tb]
  | 3, _ => simp [tb]
  | 4, _ => simp [tb]
theorem plain_len {S : Snd} (hS : ∀ nm, (S nm).length ≤ 14) {d : Nat} {t : Tr} (h : tok S d t) (hd : d ≤ 4) : (plain S t).length ≤ 1134 := by
  have g := made_good hS d t h
  have a := tlen_sems _ g.w
  have b := tb_le hd
  have c := g.tl
  rw [g.sem] at a
  omega
theorem min_if {a b : Int} : (if b < a then b else a) = min a b := by
  split <;> omega
theorem cut_ints {xs : List Int} {s e : Int} (h0 : 0 ≤ s) (h1 : s ≤ e) (h2 : e ≤ (xs.length : Int)) : cutV (xs.map V.int) (some s) (some e) = ((xs.take e.toNat).drop s.toNat).map V.int := by
  unfold cutV
  rw [List.length_map]
  have e1 : HT.sIx xs.length 0 (some s) = s.toNat := by
    unfold HT.sIx
    have c : ¬ s < 0 := by omega
    simp only [c, if_false]; omega
  have e2 : HT.sIx xs.length xs.length (some e) = e.toNat := by
    unfold HT.sIx
    have c : ¬ e < 0 := by omega
    simp only [c, if_false]; omega
  rw [e1, e2, ← List.map_drop, ← List.map_take, List.drop_take]
theorem rep_ints (k : Nat) (xs : List Int) : (List.replicate k (xs.map V.int)).flatten = ((List.replicate k xs).flatten).map V.int := by
  rw [List.map_flatten, List.map_replicate]
def spPlain (K : PySem.W.Frag) (n : Nat) : Sp := fun vs H Q _ => ∃ (S : Snd) (v : V) (sd : Addr) (d : Nat) (t : Tr), vs = [v, .ref sd] ∧ (d < n ∧ d ≤ 4) ∧ TAt H t v ∧ tok S d t ∧ (∀ nm, (S nm).length ≤ 14) ∧ SndAt K H sd S ∧
  ∀ H' p, Same H H' → H p = none → H' p = some (.lst ((plain S t).map V.int)) → Q (.ref p) H'
section
variable {P : Program} {w : World} {K : PySem.W.Frag} {mg : Str → Option Value} {base : Heap} {f : Addr} {fd : FuncData}
theorem scPlain : FnScope ["_law_tree", "_law_sounds", "_law_first", "_law_start", "_law_end", "_law_value"] ["_law_tree", "_law_sounds"] (defScope sPlain) := ⟨rfl, rfl, rfl, by decide +kernel, rfl, by decide +kernel, by decide +kernel⟩
theorem ok_plain {n : Nat} {g1 : Addr} {d1 : FuncData} (F : Fun K "_law_plain" "_law_plain" sPlain f fd) (B : Bt mg)
    (D1 : Df K mg "_law_plain" sPlain ["_law_tree", "_law_sounds"] g1 d1) (G1 : FnOk P w K mg base CX0 (n + 1) g1 d1 ["_law_tree", "_law_sounds"] (spPlain K n)) :
    FnOk P w K mg base CX0 (n + 2) f fd ["_law_tree", "_law_sounds"] (spPlain K (n + 1)) := by
  refine F.ok scPlain (fun vs H Q E h => ?_) (fun cdv A outer s H vs Q E hr h => ?_)
  · obtain ⟨S, v, sd, d, t, rfl, _⟩ := h
    rfl
  obtain ⟨S, v, sd, d, t, rfl, hd, ht, hk, hS, hs, q⟩ := h
  have hu := hu_of hr
  have sz : (10000 : Nat) ≤ sizeLine := by decide
  refine ⟨_, pss_cons (ps_if (pt_cmpR op_eq (pe_ix ix_tup (pv 0) pe_int (fun _ _ => rfl)) pe_str (nomark _)) (pss_one (ps_ret (pe_op op_rep (pe_lst (pa_cons pe_int pa_nil)) (pe_ix ix_tup (pv 0) pe_int (fun _ _ => rfl))))) pss_nil)
    (pss_cons (ps_if (pt_cmpR op_eq (pe_ix ix_tup (pv 0) pe_int (fun _ _ => rfl)) pe_str (nomark _)) (pss_one (ps_ret (pe_callTy call_list_of (by rfl) B.list (by decide +kernel) (pa_cons (pe_ix ix_tup (pv 0) pe_int (fun _ _ => rfl)) pa_nil)))) pss_nil)
    (pss_cons (ps_if (pt_cmpR op_eq (pe_ix ix_tup (pv 0) pe_int (fun _ _ => rfl)) pe_str (nomark _)) (pss_one (ps_ret (pe_slice sl_list (pe_dget hu (pv 1) (pe_ix ix_tup (pv 0) pe_int (fun _ _ => rfl)) (fun _ _ => rfl)) (po_some (pe_ix ix_tup (pv 0) pe_int (fun _ _ => rfl))) (po_some (pe_ix ix_tup (pv 0) pe_int (fun _ _ => rfl)))))) pss_nil)
    (pss_cons (ps_set (i := 2) scPlain.nd rfl (Or.inl rfl) (pe_call G1 hr rfl D1.mg D1.fn.kp D1.bd .nil pass0 (pa_cons (pe_ix ix_tup (pv 0) pe_int (fun _ _ => rfl)) (pa_cons (pv 1) pa_nil))))
    (pss_cons (ps_if (pt_cmpR op_eq (pe_ix ix_tup (pv 0) pe_int (fun _ _ => rfl)) pe_str (nomark _)) (pss_one (ps_ret (pe_op op_cat (pv 2) (pe_call G1 hr rfl D1.mg D1.fn.kp D1.bd .nil pass0 (pa_cons (pe_ix ix_tup (pv 0) pe_int (fun _ _ => rfl)) (pa_cons (pv 1) pa_nil)))))) pss_nil)
    (pss_cons (ps_if (pt_cmpR op_eq (pe_ix ix_tup (pv 0) pe_int (fun _ _ => rfl)) pe_str (nomark _)) (pss_one (ps_ret (pe_op op_rep (pv 2) (pe_ix ix_tup (pv 0) pe_int (fun _ _ => rfl))))) pss_nil)
    (pss_cons (ps_if (pt_cmpR op_eq (pe_ix ix_tup (pv 0) pe_int (fun _ _ => rfl)) pe_str (nomark _)) (pss_one (ps_ret (pe_lc (own := [("_law_value", 5)]) (g := gName 5) (tt := tYes) rfl scPlain.nd (pi_list (pv 2))
        (blkOk_by (N := ["_law_tree", "_law_sounds", "_law_first", "_law_start", "_law_end", "_law_value"]) (sc := defScope sPlain) (by decide +kernel))
        (fun _ _ _ _ _ => pg_name (i := 5) scPlain.nd rfl (Or.inl rfl)) (fun _ _ _ _ _ => pts_nil)
        (fun _ _ _ _ _ => pe_op op_fdiv (pe_op op_add (pe_op op_mul (pe_op op_mul pe_int (pv 5)) (pe_ix (r := rIxT K) ix_tup (pv 0) pe_int (fun _ _ => rfl))) (pe_ix (r := rIxT K) ix_tup (pv 0) pe_int (fun _ _ => rfl))) (pe_op op_mul pe_int (pe_ix (r := rIxT K) ix_tup (pv 0) pe_int (fun _ _ => rfl))))))) pss_nil)
    (pss_cons (ps_asg (pe_callB cr_sorted (by rfl) B.sorted (by decide +kernel) (pa_cons (pe_lst (pa_cons (pe_callB (call_min2 rfl) (by rfl) B.min (by decide +kernel) (pa_cons (pe_ix ix_tup (pv 0) pe_int (fun _ _ => rfl)) (pa_cons (pe_callB call_len_seq (by rfl) B.len PySem.boot_len (pa_cons (pv 2) pa_nil)) pa_nil)))
        (pa_cons (pe_callB (call_min2 rfl) (by rfl) B.min (by decide +kernel) (pa_cons (pe_ix ix_tup (pv 0) pe_int (fun _ _ => rfl)) (pa_cons (pe_callB call_len_seq (by rfl) B.len PySem.boot_len (pa_cons (pv 2) pa_nil)) pa_nil))) pa_nil))) pa_nil))
      (pg_unl rfl (pgs_cons (pg_name (i := 3) scPlain.nd rfl (Or.inl rfl)) (pgs_cons (pg_name (i := 4) scPlain.nd rfl (Or.inl rfl)) pgs_nil))))
    (pss_one (ps_ret (pe_slice sl_list (pv 2) (po_some (pv 3)) (po_some (pv 4)))))))))))), ?_⟩
  cases t with
  | sil n =>
    obtain ⟨a, rfl, k1⟩ := at_tsil (K := K) ht
    have hn : 0 ≤ n ∧ n ≤ 8 := by cases d <;> exact hk
    refine ⟨_, rfl, a, _, _, _, rfl, rfl, k1, rfl, rfl, _, rfl, iteE rfl ?_⟩
    refine ⟨by show 1 ≤ sizeLine; omega, fun p1 np1 => ?_⟩
    have R1 := same_new np1 (.lst [.int 0])
    refine ⟨_, rfl, a, _, _, _, rfl, rfl, sqT_mono R1 k1, rfl, p1, n, [.int 0], rfl, rfl, upd_same, by omega, by omega, by show 1 * _ ≤ _; omega, fun p2 np2 => ?_⟩
    refine q _ p2 (R1.trans (same_new np2 _)) (none_back R1 np2) ?_
    rw [upd_same]
    have e := rep_ints n.toNat [0]
    simp only [plain]
    rw [show (List.replicate n.toNat (0 : Int)) = (List.replicate n.toNat [(0 : Int)]).flatten by rw [List.flatten_replicate_singleton], ← e]
    rfl
  | sam ns =>
    obtain ⟨a, b, rfl, k1, k2⟩ := at_tsam (K := K) ht
    refine ⟨_, rfl, a, _, _, _, rfl, rfl, k1, rfl, rfl, _, rfl, iteD sam_sil2 ?_⟩
    refine ⟨_, rfl, a, _, _, _, rfl, rfl, k1, rfl, rfl, _, rfl, iteE rfl ?_⟩
    refine ⟨_, rfl, a, _, _, _, rfl, rfl, k1, rfl, b, _, rfl, .inl (SqL.of k2), fun p np => ?_⟩
    exact q _ p (same_new np _) np upd_same
  | part nm s0 e0 =>
    obtain ⟨a, rfl, k1⟩ := at_tpart (K := K) ht
    have hn : (nm = sA ∨ nm = sB) ∧ 0 ≤ s0 ∧ s0 ≤ e0 ∧ e0 ≤ ((S nm).length : Int) := by cases d <;> exact hk
    obtain ⟨l, q1, q2⟩ := hs.get hn.1
    refine ⟨_, rfl, a, _, _, _, rfl, rfl, k1, rfl, rfl, _, rfl, iteD part_sil2 ?_⟩
    refine ⟨_, rfl, a, _, _, _, rfl, rfl, k1, rfl, rfl, _, rfl, iteD part_sam2 ?_⟩
    refine ⟨_, rfl, a, _, _, _, rfl, rfl, k1, rfl, rfl, _, rfl, iteE rfl ?_⟩
    refine ⟨_, rfl, _, rfl, a, _, _, _, rfl, rfl, k1, rfl, sd, _, rfl, q1, _, rfl, a, _, _, _, rfl, rfl, k1, rfl, _, rfl, _, rfl, a, _, _, _, rfl, rfl, k1, rfl, _, rfl, l, _, rfl, q2, fun p np => ?_⟩
    refine q _ p (same_new np _) np ?_
    rw [upd_same, cut_ints hn.2.1 hn.2.2.1 hn.2.2.2]
    rfl
  | sum x y =>
    obtain ⟨a, u, z, rfl, k1, kx, ky⟩ := at_tsum (K := K) ht
    match d, hk, hd with
    | 0, hk, _ => simp [tok] at hk
    | d + 1, hk, hd =>
      have ln := plain_len hS hk hd.2
      simp only [plain, List.length_append] at ln
      refine ⟨_, rfl, a, _, _, _, rfl, rfl, k1, rfl, rfl, _, rfl, iteD sum_sil ?_⟩
      refine ⟨_, rfl, a, _, _, _, rfl, rfl, k1, rfl, rfl, _, rfl, iteD sum_sam ?_⟩
      refine ⟨_, rfl, a, _, _, _, rfl, rfl, k1, rfl, rfl, _, rfl, iteD sum_part ?_⟩
      refine ⟨_, rfl, a, _, _, _, rfl, rfl, k1, rfl, _, rfl, S, _, sd, d, x, rfl, ⟨by omega, by omega⟩, kx, hk.1, hS, hs, fun H1 p1 R1 n1 e1 => ?_⟩
      have k1' := sqT_mono R1 k1
      refine ⟨_, rfl, a, _, _, _, rfl, rfl, k1', rfl, rfl, _, rfl, iteE rfl ?_⟩
      refine ⟨_, rfl, _, rfl, a, _, _, _, rfl, rfl, k1', rfl, _, rfl, S, _, sd, d, y, rfl, ⟨by omega, by omega⟩, tat_mono R1 _ _ ky, hk.2, hS, hs.mono R1, fun H2 p2 R2 n2 e2 => ?_⟩
      refine ⟨p1, p2, _, _, rfl, rfl, R2 _ _ e1, e2, by rw [List.length_map, List.length_map]; omega, fun p3 n3 => ?_⟩
      have R := R1.trans R2
      refine q _ p3 (R.trans (same_new n3 _)) (none_back R n3) ?_
      rw [upd_same, ← List.map_append]
      rfl
  | times x m =>
    obtain ⟨a, u, rfl, k1, kx⟩ := at_ttimes (K := K) ht
    match d, hk, hd with
    | 0, hk, _ => simp [tok] at hk
    | d + 1, hk, hd =>
      obtain ⟨hk1, hm0, hm1⟩ := hk
      have ln := plain_len hS hk1 (show d ≤ 4 by omega)
      refine ⟨_, rfl, a, _, _, _, rfl, rfl, k1, rfl, rfl, _, rfl, iteD tim_sil ?_⟩
      refine ⟨_, rfl, a, _, _, _, rfl, rfl, k1, rfl, rfl, _, rfl, iteD tim_sam ?_⟩
      refine ⟨_, rfl, a, _, _, _, rfl, rfl, k1, rfl, rfl, _, rfl, iteD tim_part ?_⟩
      refine ⟨_, rfl, a, _, _, _, rfl, rfl, k1, rfl, _, rfl, S, _, sd, d, x, rfl, ⟨by omega, by omega⟩, kx, hk1, hS, hs, fun H1 p1 R1 n1 e1 => ?_⟩
      have k1' := sqT_mono R1 k1
      refine ⟨_, rfl, a, _, _, _, rfl, rfl, k1', rfl, rfl, _, rfl, iteD tim_sum ?_⟩
      refine ⟨_, rfl, a, _, _, _, rfl, rfl, k1', rfl, rfl, _, rfl, iteE rfl ?_⟩
      refine ⟨_, rfl, _, rfl, a, _, _, _, rfl, rfl, k1', rfl, p1, m, _, rfl, rfl, e1, by omega, by omega, ?_, fun p2 n2 => ?_⟩
      · rw [List.length_map]
        have : (plain S x).length * m.toNat ≤ 1134 * 3 := Nat.mul_le_mul ln (by omega)
        omega
      refine q _ p2 (R1.trans (same_new n2 _)) (none_back R1 n2) ?_
      rw [upd_same, rep_ints]
      rfl
  | gain x t0 b0 =>
    obtain ⟨a, u, rfl, k1, kx⟩ := at_tgain (K := K) ht
    match d, hk, hd with
    | 0, hk, _ => simp [tok] at hk
    | d + 1, hk, hd =>
      obtain ⟨hk1, ht0, hb0⟩ := hk
      have ln := plain_len hS hk1 (show d ≤ 4 by omega)
      refine ⟨_, rfl, a, _, _, _, rfl, rfl, k1, rfl, rfl, _, rfl, iteD gai_sil ?_⟩
      refine ⟨_, rfl, a, _, _, _, rfl, rfl, k1, rfl, rfl, _, rfl, iteD gai_sam ?_⟩
      refine ⟨_, rfl, a, _, _, _, rfl, rfl, k1, rfl, rfl, _, rfl, iteD gai_part ?_⟩
      refine ⟨_, rfl, a, _, _, _, rfl, rfl, k1, rfl, _, rfl, S, _, sd, d, x, rfl, ⟨by omega, by omega⟩, kx, hk1, hS, hs, fun H1 p1 R1 n1 e1 => ?_⟩
      have k1' := sqT_mono R1 k1
      refine ⟨_, rfl, a, _, _, _, rfl, rfl, k1', rfl, rfl, _, rfl, iteD gai_sum ?_⟩
      refine ⟨_, rfl, a, _, _, _, rfl, rfl, k1', rfl, rfl, _, rfl, iteD gai_tim ?_⟩
      refine ⟨_, rfl, a, _, _, _, rfl, rfl, k1', rfl, rfl, _, rfl, iteE rfl ?_⟩
      refine ⟨_, rfl, p1, rfl, ⟨_, SqL.of e1⟩, fun D nD => lc_list (K := K) (a := p1) (xs := (plain S x).map V.int) (fun i H' => Same H1 H' ∧ H' D = some (.lst (((plain S x).take i).map fun v => V.int (K46.g1 v (t0, b0)))))
        ⟨same_new nD _, upd_same⟩ (fun i H' _ R => SqL.of (R.1 _ _ e1)) ?_ ?_⟩
      · rintro i z H' hi ⟨R, hD'⟩
        rw [List.getElem?_map] at hi
        obtain ⟨v, ev, rfl⟩ := Option.map_eq_some_iff.mp hi
        have k1'' := sqT_mono R k1'
        refine ⟨rfl, ?_⟩
        refine ⟨_, rfl, _, _, rfl, rfl, .inl (by omega), _, rfl, a, _, _, _, rfl, rfl, k1'', rfl, _, _, rfl, rfl, .inr (by omega), _, rfl, a, _, _, _, rfl, rfl, k1'', rfl, _, _, rfl, rfl, _, rfl, a, _, _, _, rfl, rfl, k1'', rfl, _, _, rfl, rfl, .inl (by omega), _, _, rfl, rfl, ⟨by omega, by omega⟩, ?_⟩
        refine ⟨_, hD', ?_, keep_new nD R, ?_⟩
        · rw [List.length_map, List.length_take]
          omega
        · rw [upd_same, ← take_map_snoc _ _ ev]; rfl
      · rintro H' ⟨R, hD'⟩
        rw [List.length_map, List.take_length] at hD'
        have R2 := R1.trans R
        refine q _ D R2 (none_back R1 nD) ?_
        rw [hD']
        simp only [plain, List.map_map]
        rfl
  | cut x x0 y0 =>
    obtain ⟨a, u, rfl, k1, kx⟩ := at_tcut (K := K) ht
    match d, hk, hd with
    | 0, hk, _ => simp [tok] at hk
    | d + 1, hk, hd =>
      obtain ⟨hk1, hx0, hy0⟩ := hk
      have ln := plain_len hS hk1 (show d ≤ 4 by omega)
      refine ⟨_, rfl, a, _, _, _, rfl, rfl, k1, rfl, rfl, _, rfl, iteD cut_sil ?_⟩
      refine ⟨_, rfl, a, _, _, _, rfl, rfl, k1, rfl, rfl, _, rfl, iteD cut_sam ?_⟩
      refine ⟨_, rfl, a, _, _, _, rfl, rfl, k1, rfl, rfl, _, rfl, iteD cut_part ?_⟩
      refine ⟨_, rfl, a, _, _, _, rfl, rfl, k1, rfl, _, rfl, S, _, sd, d, x, rfl, ⟨by omega, by omega⟩, kx, hk1, hS, hs, fun H1 p1 R1 n1 e1 => ?_⟩
      have k1' := sqT_mono R1 k1
      refine ⟨_, rfl, a, _, _, _, rfl, rfl, k1', rfl, rfl, _, rfl, iteD cut_sum ?_⟩
      refine ⟨_, rfl, a, _, _, _, rfl, rfl, k1', rfl, rfl, _, rfl, iteD cut_tim ?_⟩
      refine ⟨_, rfl, a, _, _, _, rfl, rfl, k1', rfl, rfl, _, rfl, iteD cut_gai ?_⟩
      refine ⟨_, rfl, a, _, _, _, rfl, rfl, k1', rfl, _, rfl, p1, _, rfl, .inl (SqL.of e1), _, _, rfl, _, rfl, a, _, _, _, rfl, rfl, k1', rfl, _, rfl, p1, _, rfl, .inl (SqL.of e1), _, _, rfl, by show 2 ≤ sizeLine; omega, fun p2 n2 => ?_⟩
      rw [List.length_map, min_if, min_if]
      have R2 := same_new n2 (.lst [.int (min x0 (plain S x).length), .int (min y0 (plain S x).length)])
      refine ⟨p2, [min x0 (plain S x).length, min y0 (plain S x).length], rfl, SqL.of upd_same, by show 2 < 64; decide, fun ns' p3 per pw n3 => ?_⟩
      have es := sort2 per pw
      subst es
      have R3 := same_new n3 (.lst ([min (min x0 (plain S x).length) (min y0 (plain S x).length), max (min x0 (plain S x).length) (min y0 (plain S x).length)].map V.int))
      refine ⟨p3, _, rfl, SqL.of upd_same, rfl, _, _, rfl, _, _, rfl, rfl, ?_⟩
      refine ⟨_, rfl, _, rfl, _, rfl, _, rfl, _, rfl, p1, _, rfl, SqL.of (R3 _ _ (R2 _ _ e1)), fun p4 n4 => ?_⟩
      have R := R1.trans (R2.trans R3)
      refine q _ p4 (R.trans (same_new n4 _)) (none_back R n4) ?_
      rw [upd_same, cut_ints (by omega) (by omega) (by omega)]
      rfl
end
end K46
/-! part W13 -/
set_option Elab.async false
set_option linter.all false
set_option maxRecDepth 100000
set_option maxHeartbeats 2000000
namespace K46
open PySem PySem.Spec PyProof.Rows L2 K46R
abbrev sMade : Stmt := top 40
theorem cb_le {d : Nat} (h : d ≤ 4) : cb d ≤ 200 := by
  match d, h with
  | 0, _ => simp [cb]
  | 1, _ => simp [cb]
  | 2, _ => simp [cb]
  | 3, _ => simp [cb]
  | 4, _ => simp [cb]
theorem mb_of {S : Snd} {d : Nat} {t : Tr} {ps : List Pc} (g : Good S d t ps) (hd : d ≤ 4) : Mb ps := by
  have a := g.tl
  have b := tb_le hd
  have c := g.pc
  have e := cb_le hd
  have k := g.dp
  exact ⟨⟨S, d, g.w, by omega⟩, by omega, by omega, by omega⟩
def spMade (K : PySem.W.Frag) (C : Addr) (n : Nat) : Sp := fun vs H Q _ => ∃ (S : Snd) (v : V) (d : Nat) (t : Tr), vs = [v] ∧ (d < n ∧ d ≤ 4) ∧ TAt H t v ∧ tok S d t ∧ (∀ nm, (S nm).length ≤ 14) ∧
  ∀ H' r, Same H H' → ClipAt K C H' r (made t) → Q r H'
section
variable {P : Program} {w : World} {K : PySem.W.Frag} {mg : Str → Option Value} {base : Heap} {f C : Addr} {fd : FuncData}
theorem scMade : FnScope ["_law_tree", "_law_first", "_law_start", "_law_end"] ["_law_tree"] (defScope sMade) := ⟨rfl, rfl, rfl, by decide +kernel, rfl, by decide +kernel, by decide +kernel⟩
theorem ok_made {n : Nat} {mc : Value} {g0 g1 g2 g3 p1 p2 p3 gA gM gG gC pL gL : Addr} {d0 d1 d2 d3 dA dM dG dC dL : FuncData} {fo ro : Option Value} (F : Fun K "_law_made" "_law_made" sMade f fd) (T : CT K mg C) (B : Bt mg) (RC : ClX.CRead K C mc)
    (D0 : Df K mg "_law_made" sMade ["_law_tree"] g0 d0) (G0 : FnOk P w K mg base CX0 (n + 37) g0 d0 ["_law_tree"] (spMade K C n))
    (S1 : CStat K C mc "silence" p1 g1) (B1 : Binds K d1 ["count"] []) (G1 : FnOk P w K mg base CX0 36 g1 d1 ["count"] (spSil K C))
    (S2 : CStat K C mc "samples" p2 g2) (B2 : Binds K d2 ["sound"] []) (G2 : FnOk P w K mg base CX0 36 g2 d2 ["sound"] (spSams K C))
    (S3 : CStat K C mc "part" p3 g3) (B3 : Binds K d3 ["name", "start", "end"] []) (G3 : FnOk P w K mg base CX0 36 g3 d3 ["name", "start", "end"] (spPart K C))
    (OA : OpOf K C "__add__" gA) (BA : Binds K dA ["self", "other"] []) (GA : FnOk P w K mg base CX0 36 gA dA ["self", "other"] (spAdd K C))
    (OM : OpOf K C "__mul__" gM) (BM : Binds K dM ["self", "other"] []) (GM : FnOk P w K mg base CX0 36 gM dM ["self", "other"] (spMul K C))
    (m1 : PySem.W.findIn K (.ref C) "__rmul__" = some none) (m2 : PySem.W.findIn K (.type "int") "__mul__" = some fo) (m3 : PySem.W.findIn K (.type "int") "__rmul__" = some ro) (m4 : PySem.W.subIn K (.type "int") (.ref C) = some false)
    (MG : Md K C "gained" gG dG ["self", "top", "bottom"]) (GG : FnOk P w K mg base CX0 36 gG dG ["self", "top", "bottom"] (spGnd K C))
    (MC : Md K C "cut" gC dC ["self", "start", "end"]) (GC : FnOk P w K mg base CX0 36 gC dC ["self", "start", "end"] (spCut K C))
    (PL : PropOf K C "length" pL gL) (BL : Binds K dL ["self"] []) (GL : FnOk P w K mg base CX0 36 gL dL ["self"] (spLen K C)) :
    FnOk P w K mg base CX0 (n + 38) f fd ["_law_tree"] (spMade K C (n + 1)) := by
  refine F.ok scMade (fun vs H Q E h => ?_) (fun cdv A outer s H vs Q E hr h => ?_)
  · obtain ⟨S, v, d, t, rfl, _⟩ := h
    rfl
  obtain ⟨S, v, d, t, rfl, hd, ht, hk, hS, q⟩ := h
  have hr36 : Room 36 _ := hr.mono (by omega)
  have hr37 : Room (36 + 1) _ := hr.mono (by omega)
  have sz : (10000 : Nat) ≤ sizeLine := by decide
  refine ⟨_, pss_cons (ps_if (pt_cmpR op_eq (pe_ix ix_tup (pv 0) pe_int (fun _ _ => rfl)) pe_str (nomark _)) (pss_one (ps_ret (pe_stat (pe_glob (v := .ref C) rfl T.mgC rfl) RC S1 G1 hr36 B1 pass0 (pa_cons (pe_ix ix_tup (pv 0) pe_int (fun _ _ => rfl)) pa_nil)))) pss_nil)
    (pss_cons (ps_if (pt_cmpR op_eq (pe_ix ix_tup (pv 0) pe_int (fun _ _ => rfl)) pe_str (nomark _)) (pss_one (ps_ret (pe_stat (pe_glob (v := .ref C) rfl T.mgC rfl) RC S2 G2 hr36 B2 pass0 (pa_cons (pe_ix ix_tup (pv 0) pe_int (fun _ _ => rfl)) pa_nil)))) pss_nil)
    (pss_cons (ps_if (pt_cmpR op_eq (pe_ix ix_tup (pv 0) pe_int (fun _ _ => rfl)) pe_str (nomark _)) (pss_one (ps_ret (pe_stat (pe_glob (v := .ref C) rfl T.mgC rfl) RC S3 G3 hr36 B3 pass0 (pa_cons (pe_ix ix_tup (pv 0) pe_int (fun _ _ => rfl)) (pa_cons (pe_ix ix_tup (pv 0) pe_int (fun _ _ => rfl)) (pa_cons (pe_ix ix_tup (pv 0) pe_int (fun _ _ => rfl)) pa_nil)))))) pss_nil)
    (pss_cons (ps_set (i := 1) scMade.nd rfl (Or.inl rfl) (pe_call G0 hr rfl D0.mg D0.fn.kp D0.bd .nil pass0 (pa_cons (pe_ix ix_tup (pv 0) pe_int (fun _ _ => rfl)) pa_nil)))
    (pss_cons (ps_if (pt_cmpR op_eq (pe_ix ix_tup (pv 0) pe_int (fun _ _ => rfl)) pe_str (nomark _)) (pss_one (ps_ret (pe_op (op_own2 OA GA hr36 BA pass0) (pv 1) (pe_call G0 hr rfl D0.mg D0.fn.kp D0.bd .nil pass0 (pa_cons (pe_ix ix_tup (pv 0) pe_int (fun _ _ => rfl)) pa_nil))))) pss_nil)
    (pss_cons (ps_if (pt_cmpR op_eq (pe_ix ix_tup (pv 0) pe_int (fun _ _ => rfl)) pe_str (nomark _)) (pss_one (ps_ret (pe_op (op_ownI OM m1 m2 m3 m4 GM hr36 BM pass0) (pv 1) (pe_ix ix_tup (pv 0) pe_int (fun _ _ => rfl))))) pss_nil)
    (pss_cons (ps_if (pt_cmpR op_eq (pe_ix ix_tup (pv 0) pe_int (fun _ _ => rfl)) pe_str (nomark _)) (pss_one (ps_ret (pe_meth (pv 1) T.cl MG.mt GG hr36 MG.bd .nil pass0 (pa_cons (pe_ix ix_tup (pv 0) pe_int (fun _ _ => rfl)) (pa_cons (pe_ix ix_tup (pv 0) pe_int (fun _ _ => rfl)) pa_nil))))) pss_nil)
    (pss_cons (ps_asg (pe_callB cr_sorted (by rfl) B.sorted (by decide +kernel) (pa_cons (pe_lst (pa_cons (pe_callB (call_min2 rfl) (by rfl) B.min (by decide +kernel) (pa_cons (pe_ix ix_tup (pv 0) pe_int (fun _ _ => rfl)) (pa_cons (pe_prop (pv 1) T.cl PL GL hr37 BL .nil pass0 rfl) pa_nil))) (pa_cons (pe_callB (call_min2 rfl) (by rfl) B.min (by decide +kernel) (pa_cons (pe_ix ix_tup (pv 0) pe_int (fun _ _ => rfl)) (pa_cons (pe_prop (pv 1) T.cl PL GL hr37 BL .nil pass0 rfl) pa_nil))) pa_nil))) pa_nil))
      (pg_unl rfl (pgs_cons (pg_name (i := 2) scMade.nd rfl (Or.inl rfl)) (pgs_cons (pg_name (i := 3) scMade.nd rfl (Or.inl rfl)) pgs_nil))))
    (pss_one (ps_ret (pe_meth (pv 1) T.cl MC.mt GC hr36 MC.bd .nil pass0 (pa_cons (pv 2) (pa_cons (pv 3) pa_nil)))))))))))), ?_⟩
  cases t with
  | sil n =>
    obtain ⟨a, rfl, k1⟩ := at_tsil (K := K) ht
    have hn : 0 ≤ n ∧ n ≤ 8 := by cases d <;> exact hk
    refine ⟨_, rfl, a, _, _, _, rfl, rfl, k1, rfl, rfl, _, rfl, iteE rfl ?_⟩
    refine ⟨rfl, _, rfl, a, _, _, _, rfl, rfl, k1, rfl, n, rfl, ⟨by omega, by omega⟩, mb_of (made_good hS d _ hk) hd.2, q⟩
  | sam ns =>
    obtain ⟨a, b, rfl, k1, k2⟩ := at_tsam (K := K) ht
    have hn : ns.length ≤ 5 := by cases d <;> exact hk
    refine ⟨_, rfl, a, _, _, _, rfl, rfl, k1, rfl, rfl, _, rfl, iteD sam_sil2 ?_⟩
    refine ⟨_, rfl, a, _, _, _, rfl, rfl, k1, rfl, rfl, _, rfl, iteE rfl ?_⟩
    refine ⟨rfl, _, rfl, a, _, _, _, rfl, rfl, k1, rfl, b, ns, rfl, k2, by omega, mb_of (made_good hS d _ hk) hd.2, q⟩
  | part nm s0 e0 =>
    obtain ⟨a, rfl, k1⟩ := at_tpart (K := K) ht
    have hn : (nm = sA ∨ nm = sB) ∧ 0 ≤ s0 ∧ s0 ≤ e0 ∧ e0 ≤ ((S nm).length : Int) := by cases d <;> exact hk
    refine ⟨_, rfl, a, _, _, _, rfl, rfl, k1, rfl, rfl, _, rfl, iteD part_sil2 ?_⟩
    refine ⟨_, rfl, a, _, _, _, rfl, rfl, k1, rfl, rfl, _, rfl, iteD part_sam2 ?_⟩
    refine ⟨_, rfl, a, _, _, _, rfl, rfl, k1, rfl, rfl, _, rfl, iteE rfl ?_⟩
    refine ⟨rfl, _, rfl, a, _, _, _, rfl, rfl, k1, rfl, _, rfl, a, _, _, _, rfl, rfl, k1, rfl, _, rfl, a, _, _, _, rfl, rfl, k1, rfl, nm, s0, e0, rfl, hn.1, ⟨hn.2.1, hn.2.2.1⟩, mb_of (made_good hS d _ hk) hd.2, q⟩
  | sum x y =>
    obtain ⟨a, u, z, rfl, k1, kx, ky⟩ := at_tsum (K := K) ht
    match d, hk, hd with
    | 0, hk, _ => simp [tok] at hk
    | d + 1, hk, hd =>
      have gd := mb_of (made_good hS (d + 1) _ hk) hd.2
      refine ⟨_, rfl, a, _, _, _, rfl, rfl, k1, rfl, rfl, _, rfl, iteD sum_sil ?_⟩
      refine ⟨_, rfl, a, _, _, _, rfl, rfl, k1, rfl, rfl, _, rfl, iteD sum_sam ?_⟩
      refine ⟨_, rfl, a, _, _, _, rfl, rfl, k1, rfl, rfl, _, rfl, iteD sum_part ?_⟩
      refine ⟨_, rfl, a, _, _, _, rfl, rfl, k1, rfl, S, _, d, x, rfl, ⟨by omega, by omega⟩, kx, hk.1, hS, fun H1 r1 R1 c1 => ?_⟩
      have k1' := sqT_mono R1 k1
      have gx := made_good hS d x hk.1
      have bx := mb_of gx (by omega)
      obtain ⟨o1, dx1, f1, rfl, i1, j1⟩ := id c1
      refine ⟨_, rfl, a, _, _, _, rfl, rfl, k1', rfl, rfl, _, rfl, iteE rfl ?_⟩
      refine ⟨_, rfl, _, rfl, a, _, _, _, rfl, rfl, k1', rfl, S, _, d, y, rfl, ⟨by omega, by omega⟩, tat_mono R1 _ _ ky, hk.2, hS, fun H2 r2 R2 c2 => ?_⟩
      have gy := made_good hS d y hk.2
      obtain ⟨o2, dx2, f2, rfl, i2, j2⟩ := id c2
      refine ⟨o1, dx1, _, o2, dx2, _, rfl, rfl, R2 _ _ i1, i2, S, d, _, _, made x, made y, rfl, c1.mono R2, c2, gx.w, gy.w, bx, mb_of gy (by omega), gd, fun H3 r R3 c3 => ?_⟩
      exact q H3 r (R1.trans (R2.trans R3)) c3
  | times x m =>
    obtain ⟨a, u, rfl, k1, kx⟩ := at_ttimes (K := K) ht
    match d, hk, hd with
    | 0, hk, _ => simp [tok] at hk
    | d + 1, hk, hd =>
      have gd := mb_of (made_good hS (d + 1) _ hk) hd.2
      obtain ⟨hk1, hm0, hm1⟩ := hk
      refine ⟨_, rfl, a, _, _, _, rfl, rfl, k1, rfl, rfl, _, rfl, iteD tim_sil ?_⟩
      refine ⟨_, rfl, a, _, _, _, rfl, rfl, k1, rfl, rfl, _, rfl, iteD tim_sam ?_⟩
      refine ⟨_, rfl, a, _, _, _, rfl, rfl, k1, rfl, rfl, _, rfl, iteD tim_part ?_⟩
      refine ⟨_, rfl, a, _, _, _, rfl, rfl, k1, rfl, S, _, d, x, rfl, ⟨by omega, by omega⟩, kx, hk1, hS, fun H1 r1 R1 c1 => ?_⟩
      have k1' := sqT_mono R1 k1
      have gx := made_good hS d x hk1
      have bx := mb_of gx (by omega)
      obtain ⟨o1, dx1, f1, rfl, i1, j1⟩ := id c1
      refine ⟨_, rfl, a, _, _, _, rfl, rfl, k1', rfl, rfl, _, rfl, iteD tim_sum ?_⟩
      refine ⟨_, rfl, a, _, _, _, rfl, rfl, k1', rfl, rfl, _, rfl, iteE rfl ?_⟩
      refine ⟨_, rfl, _, rfl, a, _, _, _, rfl, rfl, k1', rfl, o1, dx1, _, m, rfl, rfl, i1, _, made x, m, rfl, c1, bx, ⟨hm0, by omega⟩, gd, fun H3 r R3 c3 => ?_⟩
      exact q H3 r (R1.trans R3) c3
  | gain x t0 b0 =>
    obtain ⟨a, u, rfl, k1, kx⟩ := at_tgain (K := K) ht
    match d, hk, hd with
    | 0, hk, _ => simp [tok] at hk
    | d + 1, hk, hd =>
      have gd := mb_of (made_good hS (d + 1) _ hk) hd.2
      obtain ⟨hk1, ht0, hb0⟩ := hk
      refine ⟨_, rfl, a, _, _, _, rfl, rfl, k1, rfl, rfl, _, rfl, iteD gai_sil ?_⟩
      refine ⟨_, rfl, a, _, _, _, rfl, rfl, k1, rfl, rfl, _, rfl, iteD gai_sam ?_⟩
      refine ⟨_, rfl, a, _, _, _, rfl, rfl, k1, rfl, rfl, _, rfl, iteD gai_part ?_⟩
      refine ⟨_, rfl, a, _, _, _, rfl, rfl, k1, rfl, S, _, d, x, rfl, ⟨by omega, by omega⟩, kx, hk1, hS, fun H1 r1 R1 c1 => ?_⟩
      have k1' := sqT_mono R1 k1
      have gx := made_good hS d x hk1
      have bx := mb_of gx (by omega)
      obtain ⟨o1, dx1, f1, rfl, i1, j1⟩ := id c1
      refine ⟨_, rfl, a, _, _, _, rfl, rfl, k1', rfl, rfl, _, rfl, iteD gai_sum ?_⟩
      refine ⟨_, rfl, a, _, _, _, rfl, rfl, k1', rfl, rfl, _, rfl, iteD gai_tim ?_⟩
      refine ⟨_, rfl, a, _, _, _, rfl, rfl, k1', rfl, rfl, _, rfl, iteE rfl ?_⟩
      refine ⟨_, rfl, o1, dx1, _, rfl, i1, cf_no _ _ (by decide +kernel) (by decide +kernel), _, rfl, a, _, _, _, rfl, rfl, k1', rfl, _, rfl, a, _, _, _, rfl, rfl, k1', rfl, _, made x, t0, b0, rfl, c1, bx, ⟨⟨by omega, by omega⟩, by omega, by omega⟩, gd, fun H3 r R3 c3 => ?_⟩
      exact q H3 r (R1.trans R3) c3
  | cut x x0 y0 =>
    obtain ⟨a, u, rfl, k1, kx⟩ := at_tcut (K := K) ht
    match d, hk, hd with
    | 0, hk, _ => simp [tok] at hk
    | d + 1, hk, hd =>
      have gd := mb_of (made_good hS (d + 1) _ hk) hd.2
      obtain ⟨hk1, hx0, hy0⟩ := hk
      refine ⟨_, rfl, a, _, _, _, rfl, rfl, k1, rfl, rfl, _, rfl, iteD cut_sil ?_⟩
      refine ⟨_, rfl, a, _, _, _, rfl, rfl, k1, rfl, rfl, _, rfl, iteD cut_sam ?_⟩
      refine ⟨_, rfl, a, _, _, _, rfl, rfl, k1, rfl, rfl, _, rfl, iteD cut_part ?_⟩
      refine ⟨_, rfl, a, _, _, _, rfl, rfl, k1, rfl, S, _, d, x, rfl, ⟨by omega, by omega⟩, kx, hk1, hS, fun H1 r1 R1 c1 => ?_⟩
      have k1' := sqT_mono R1 k1
      have gx := made_good hS d x hk1
      have bx := mb_of gx (by omega)
      obtain ⟨o1, dx1, f1, rfl, i1, j1⟩ := id c1
      refine ⟨_, rfl, a, _, _, _, rfl, rfl, k1', rfl, rfl, _, rfl, iteD cut_sum ?_⟩
      refine ⟨_, rfl, a, _, _, _, rfl, rfl, k1', rfl, rfl, _, rfl, iteD cut_tim ?_⟩
      refine ⟨_, rfl, a, _, _, _, rfl, rfl, k1', rfl, rfl, _, rfl, iteD cut_gai ?_⟩
      have l0 := tlen_nn _ gx.w
      refine ⟨_, rfl, a, _, _, _, rfl, rfl, k1', rfl, _, rfl, o1, dx1, _, rfl, i1, _, made x, rfl, c1, bx, _, _, rfl, _, rfl, a, _, _, _, rfl, rfl, k1', rfl, _, rfl, o1, dx1, _, rfl, i1, _, made x, rfl, c1, bx, _, _, rfl, by show 2 ≤ sizeLine; omega, fun p2 n2 => ?_⟩
      rw [min_if, min_if]
      have R2 := same_new n2 (.lst [.int (min x0 (tlen (made x))), .int (min y0 (tlen (made x)))])
      refine ⟨p2, [min x0 (tlen (made x)), min y0 (tlen (made x))], rfl, SqL.of upd_same, by show 2 < 64; decide, fun ns' p3 per pw n3 => ?_⟩
      have es := sort2 per pw
      subst es
      have R3 := same_new n3 (.lst ([min (min x0 (tlen (made x))) (min y0 (tlen (made x))), max (min x0 (tlen (made x))) (min y0 (tlen (made x)))].map V.int))
      refine ⟨p3, _, rfl, SqL.of upd_same, rfl, _, _, rfl, _, _, rfl, rfl, ?_⟩
      have R := R2.trans R3
      refine ⟨_, rfl, o1, dx1, _, rfl, R _ _ i1, cf_no _ _ (by decide +kernel) (by decide +kernel), _, rfl, _, rfl, _, made x, _, _, rfl, c1.mono R, bx, ⟨by omega, by omega, by omega⟩, gd, fun H3 r R4 c3 => ?_⟩
      exact q H3 r (R1.trans (R.trans R4)) c3
end
end K46
/-! part W14 -/
set_option Elab.async false
set_option linter.all false
set_option maxRecDepth 100000
set_option maxHeartbeats 2000000
namespace K46
open PySem PySem.Spec PyProof.Rows L2 K46R
abbrev sLNames : Stmt := top 41
def spLNT (K : PySem.W.Frag) (n : Nat) : Sp := fun vs H Q _ => ∃ (S : Snd) (m : Nat) (ps : List Pc) (v : V), vs = [v] ∧ Dp K H v (encL ps) ∧ wfs S m ps ∧ tlen ps ≤ BIG ∧ deps ps < n ∧
  ∀ H' p, Same H H' → H p = none → H' p = some (.lst ((lawNs ps).map V.str)) → Q (.ref p) H'
def spLNL (K : PySem.W.Frag) (n : Nat) : Sp := fun vs H Q _ => ∃ (S : Snd) (m : Nat) (ps : List Pc) (a : Addr) (xs : List V), vs = [.ref a] ∧ H a = some (.lst xs) ∧ DpAll K H xs (encs ps) ∧ wfs S m ps ∧ tlen ps ≤ BIG ∧ deps ps < n ∧
  ∀ H' p, Same H H' → H p = none → H' p = some (.lst ((lawNs ps).map V.str)) → Q (.ref p) H'
theorem law_take {ps : List Pc} {i : Nat} {p : Pc} (h : ps[i]? = some p) : lawNs (ps.take (i + 1)) = lawNs (ps.take i) ++ lawP p := by
  rw [take_snoc ps h, lawNs_app]
  simp [lawNs]
section
variable {P : Program} {w : World} {K : PySem.W.Frag} {mg : Str → Option Value} {base : Heap} {f : Addr} {fd : FuncData}
theorem scLN : FnScope ["_law_pieces", "_law_found", "_law_piece"] ["_law_pieces"] (defScope sLNames) := ⟨rfl, rfl, rfl, by decide +kernel, rfl, by decide +kernel, by decide +kernel⟩
theorem ok_lnT {n : Nat} {g1 : Addr} {d1 : FuncData} (F : Fun K "_law_names" "_law_names" sLNames f fd)
    (D1 : Df K mg "_law_names" sLNames ["_law_pieces"] g1 d1) (G1 : FnOk P w K mg base CX0 n g1 d1 ["_law_pieces"] (spLNT K n)) :
    FnOk P w K mg base CX0 (n + 1) f fd ["_law_pieces"] (spLNT K (n + 1)) := by
  refine F.ok scLN (fun vs H Q E h => ?_) (fun cdv A outer s H vs Q E hr h => ?_)
  · obtain ⟨S, m, ps, v, rfl, _⟩ := h
    rfl
  obtain ⟨S, m, ps, v, rfl, hd, hw, hb, hdp, q⟩ := h
  obtain ⟨pa, xs, rfl, h1, h2⟩ := dp_tup hd
  have hb' : tlen ps ≤ 1000000 := hb
  have sz : (3000000 : Nat) ≤ sizeLine := by decide
  refine ⟨_, pss_cons (ps_set (i := 1) scLN.nd rfl (Or.inl rfl) (pe_lst pa_nil))
    (pss_cons (ps_for PassesOwn.never rfl (pi_tup (pv 0)) (pg_name (i := 2) scLN.nd rfl (Or.inl rfl))
      (pss_cons (ps_if (pt_cmpR op_eq (pe_ix ix_tup (pv 2) pe_int (fun _ _ => rfl)) pe_str (nomark _)) (pss_one (ps_expr (pe_bm PySem.F.plainAttrs_list PySem.F.slot_list_append PySem.F.type_list_append mt_append (pv 1) (pa_cons (pe_ix ix_tup (pv 2) pe_int (fun _ _ => rfl)) pa_nil)))) pss_nil)
      (pss_one (ps_if (pt_cmpR op_eq (pe_ix ix_tup (pv 2) pe_int (fun _ _ => rfl)) pe_str (nomark _))
        (pss_one (ps_set (i := 1) scLN.nd rfl (Or.inl rfl) (pe_op op_cat (pv 1) (pe_call G1 hr rfl D1.mg D1.fn.kp D1.bd .nil pass0 (pa_cons (pe_ix ix_tup (pv 2) pe_int (fun _ _ => rfl)) pa_nil))))) pss_nil))))
    (pss_one (ps_ret (pv 1)))), ?_⟩
  have hl : xs.length = ps.length := by rw [dpa_len h2, encs_len]
  refine ⟨by show 0 ≤ sizeLine; decide, fun D0 hD0 => ?_⟩
  refine ⟨_, rfl, pa, rfl, ⟨_, sqT_mono (same_new hD0 _) h1⟩, for_tup (K := K) (a := pa) (xs := xs) (fun i σ H' => ∃ (D : Addr) (o2 : Option V),
      σ = [some (.ref pa), some (.ref D), o2] ∧ H D = none ∧ Same H H' ∧ H' D = some (.lst ((lawNs (ps.take i)).map V.str)))
    ⟨D0, none, rfl, hD0, same_new hD0 _, upd_same⟩ (fun i σ H' _ ⟨_, _, _, _, R, _⟩ => sqT_mono R h1) ?_ ?_⟩
  · rintro i z σ H1 hi ⟨D, o2, rfl, hD, R1, hD1⟩
    have hi' : i < ps.length := by rw [← hl]; exact (List.getElem?_eq_some_iff.mp hi).1
    have hp : ps[i]? = some ps[i] := List.getElem?_eq_getElem hi'
    obtain ⟨y, q1, q2⟩ := dpa_at h2 (by rw [encs_get, hp]; rfl)
    rw [hi] at q1
    cases q1
    obtain ⟨w1, w2, w3⟩ := at_wf hw hp
    have gt := law_take hp
    have t1 := law_len _ (wfs_take ps i hw)
    have t2 := tlen_take ps i hw
    generalize ps[i] = p at *
    generalize lawNs (ps.take i) = l at *
    have ll : l.length ≤ 1000000 := by omega
    cases p with
    | part nm s0 e0 g0 =>
      obtain ⟨b, gv, rfl, k1, k2⟩ := at_part q2
      have k1' := sqT_mono R1 k1
      have R2 : Same H (upd H1 D (.lst (l.map V.str ++ [.str nm]))) := keep_new hD R1
      have k1'' := sqT_mono R2 k1
      refine ⟨_, rfl, b, _, _, _, rfl, rfl, k1', rfl, rfl, _, rfl, iteE rfl ?_⟩
      refine ⟨_, rfl, .inl ⟨rfl, _, SqL.of hD1⟩, _, rfl, b, _, _, _, rfl, rfl, k1', rfl, D, _, _, rfl, rfl, hD1, by rw [List.length_map]; omega, ?_⟩
      refine ⟨_, rfl, b, _, _, _, rfl, rfl, k1'', rfl, rfl, _, rfl, iteD part_rep ?_⟩
      refine ⟨D, _, rfl, hD, R2, ?_⟩
      rw [upd_same, gt]
      simp only [lawP, List.map_append, List.map_cons, List.map_nil]
    | rep k qs =>
      obtain ⟨b, pv', rfl, k1, k2⟩ := at_rep q2
      have k1' := sqT_mono R1 k1
      obtain ⟨u1, u2, u3⟩ := w1
      have hm2 : tlen qs ≤ k * tlen qs := by
        have : 1 * tlen qs ≤ k * tlen qs := Int.mul_le_mul_of_nonneg_right (by omega) (tlen_nn qs u3)
        omega
      simp only [plen] at w3
      simp only [dep] at w2
      have t3 := law_len _ u3
      refine ⟨_, rfl, b, _, _, _, rfl, rfl, k1', rfl, rfl, _, rfl, iteD rep_part ?_⟩
      refine ⟨_, rfl, b, _, _, _, rfl, rfl, k1', rfl, rfl, _, rfl, iteE rfl ?_⟩
      refine ⟨_, rfl, _, rfl, b, _, _, _, rfl, rfl, k1', rfl, S, m, qs, _, rfl, dp_mono R1 _ _ k2, u3, by show tlen qs ≤ 1000000; omega, by omega, fun H2 e R2 ne he => ?_⟩
      refine ⟨D, e, _, _, rfl, rfl, R2 _ _ hD1, he, by rw [List.length_map, List.length_map]; omega, fun D2 hD2 => ?_⟩
      have R := R1.trans R2
      refine ⟨D2, _, rfl, none_back R hD2, R.trans (same_new hD2 _), ?_⟩
      rw [upd_same, gt]
      simp only [lawP, List.map_append]
    | sil k =>
      obtain ⟨b, rfl, k1⟩ := at_sil q2
      have k1' := sqT_mono R1 k1
      refine ⟨_, rfl, b, _, _, _, rfl, rfl, k1', rfl, rfl, _, rfl, iteD sil_part ?_⟩
      refine ⟨_, rfl, b, _, _, _, rfl, rfl, k1', rfl, rfl, _, rfl, iteD sil_rep ?_⟩
      refine ⟨D, _, rfl, hD, R1, ?_⟩
      rw [hD1, gt]
      simp only [lawP, List.append_nil]
    | sam ns g0 =>
      obtain ⟨b, c, gv, rfl, k1, _⟩ := at_sam q2
      have k1' := sqT_mono R1 k1
      refine ⟨_, rfl, b, _, _, _, rfl, rfl, k1', rfl, rfl, _, rfl, iteD sam_part ?_⟩
      refine ⟨_, rfl, b, _, _, _, rfl, rfl, k1', rfl, rfl, _, rfl, iteD sam_rep ?_⟩
      refine ⟨D, _, rfl, hD, R1, ?_⟩
      rw [hD1, gt]
      simp only [lawP, List.append_nil]
  · rintro σ H1 ⟨D, o2, rfl, hD, R1, hD1⟩
    rw [hl, List.take_length] at hD1
    exact ⟨_, rfl, q H1 D R1 hD hD1⟩
theorem ok_lnL {n : Nat} {g1 : Addr} {d1 : FuncData} (F : Fun K "_law_names" "_law_names" sLNames f fd)
    (D1 : Df K mg "_law_names" sLNames ["_law_pieces"] g1 d1) (G1 : FnOk P w K mg base CX0 n g1 d1 ["_law_pieces"] (spLNT K n)) :
    FnOk P w K mg base CX0 (n + 1) f fd ["_law_pieces"] (spLNL K (n + 1)) := by
  refine F.ok scLN (fun vs H Q E h => ?_) (fun cdv A outer s H vs Q E hr h => ?_)
  · obtain ⟨S, m, ps, pa, xs, rfl, _⟩ := h
    rfl
  obtain ⟨S, m, ps, pa, xs, rfl, h0, h2, hw, hb, hdp, q⟩ := h
  have hb' : tlen ps ≤ 1000000 := hb
  have sz : (3000000 : Nat) ≤ sizeLine := by decide
  refine ⟨_, pss_cons (ps_set (i := 1) scLN.nd rfl (Or.inl rfl) (pe_lst pa_nil))
    (pss_cons (ps_for PassesOwn.never rfl (pi_list (pv 0)) (pg_name (i := 2) scLN.nd rfl (Or.inl rfl))
      (pss_cons (ps_if (pt_cmpR op_eq (pe_ix ix_tup (pv 2) pe_int (fun _ _ => rfl)) pe_str (nomark _)) (pss_one (ps_expr (pe_bm PySem.F.plainAttrs_list PySem.F.slot_list_append PySem.F.type_list_append mt_append (pv 1) (pa_cons (pe_ix ix_tup (pv 2) pe_int (fun _ _ => rfl)) pa_nil)))) pss_nil)
      (pss_one (ps_if (pt_cmpR op_eq (pe_ix ix_tup (pv 2) pe_int (fun _ _ => rfl)) pe_str (nomark _))
        (pss_one (ps_set (i := 1) scLN.nd rfl (Or.inl rfl) (pe_op op_cat (pv 1) (pe_call G1 hr rfl D1.mg D1.fn.kp D1.bd .nil pass0 (pa_cons (pe_ix ix_tup (pv 2) pe_int (fun _ _ => rfl)) pa_nil))))) pss_nil))))
    (pss_one (ps_ret (pv 1)))), ?_⟩
  have hl : xs.length = ps.length := by rw [dpa_len h2, encs_len]
  refine ⟨by show 0 ≤ sizeLine; decide, fun D0 hD0 => ?_⟩
  refine ⟨_, rfl, pa, rfl, ⟨_, SqL.of ((same_new hD0 _) _ _ h0)⟩, for_list (K := K) (a := pa) (xs := xs) (fun i σ H' => ∃ (D : Addr) (o2 : Option V),
      σ = [some (.ref pa), some (.ref D), o2] ∧ H D = none ∧ Same H H' ∧ H' D = some (.lst ((lawNs (ps.take i)).map V.str)))
    ⟨D0, none, rfl, hD0, same_new hD0 _, upd_same⟩ (fun i σ H' _ ⟨_, _, _, _, R, _⟩ => SqL.of (R _ _ h0)) ?_ ?_⟩
  · rintro i z σ H1 hi ⟨D, o2, rfl, hD, R1, hD1⟩
    have hi' : i < ps.length := by rw [← hl]; exact (List.getElem?_eq_some_iff.mp hi).1
    have hp : ps[i]? = some ps[i] := List.getElem?_eq_getElem hi'
    obtain ⟨y, q1, q2⟩ := dpa_at h2 (by rw [encs_get, hp]; rfl)
    rw [hi] at q1
    cases q1
    obtain ⟨w1, w2, w3⟩ := at_wf hw hp
    have gt := law_take hp
    have t1 := law_len _ (wfs_take ps i hw)
    have t2 := tlen_take ps i hw
    generalize ps[i] = p at *
    generalize lawNs (ps.take i) = l at *
    have ll : l.length ≤ 1000000 := by omega
    cases p with
    | part nm s0 e0 g0 =>
      obtain ⟨b, gv, rfl, k1, k2⟩ := at_part q2
      have k1' := sqT_mono R1 k1
      have R2 : Same H (upd H1 D (.lst (l.map V.str ++ [.str nm]))) := keep_new hD R1
      have k1'' := sqT_mono R2 k1
      refine ⟨_, rfl, b, _, _, _, rfl, rfl, k1', rfl, rfl, _, rfl, iteE rfl ?_⟩
      refine ⟨_, rfl, .inl ⟨rfl, _, SqL.of hD1⟩, _, rfl, b, _, _, _, rfl, rfl, k1', rfl, D, _, _, rfl, rfl, hD1, by rw [List.length_map]; omega, ?_⟩
      refine ⟨_, rfl, b, _, _, _, rfl, rfl, k1'', rfl, rfl, _, rfl, iteD part_rep ?_⟩
      refine ⟨D, _, rfl, hD, R2, ?_⟩
      rw [upd_same, gt]
      simp only [lawP, List.map_append, List.map_cons, List.map_nil]
    | rep k qs =>
      obtain ⟨b, pv', rfl, k1, k2⟩ := at_rep q2
      have k1' := sqT_mono R1 k1
      obtain ⟨u1, u2, u3⟩ := w1
      have hm2 : tlen qs ≤ k * tlen qs := by
        have : 1 * tlen qs ≤ k * tlen qs := Int.mul_le_mul_of_nonneg_right (by omega) (tlen_nn qs u3)
        omega
      simp only [plen] at w3
      simp only [dep] at w2
      have t3 := law_len _ u3
      refine ⟨_, rfl, b, _, _, _, rfl, rfl, k1', rfl, rfl, _, rfl, iteD rep_part ?_⟩
      refine ⟨_, rfl, b, _, _, _, rfl, rfl, k1', rfl, rfl, _, rfl, iteE rfl ?_⟩
      refine ⟨_, rfl, _, rfl, b, _, _, _, rfl, rfl, k1', rfl, S, m, qs, _, rfl, dp_mono R1 _ _ k2, u3, by show tlen qs ≤ 1000000; omega, by omega, fun H2 e R2 ne he => ?_⟩
      refine ⟨D, e, _, _, rfl, rfl, R2 _ _ hD1, he, by rw [List.length_map, List.length_map]; omega, fun D2 hD2 => ?_⟩
      have R := R1.trans R2
      refine ⟨D2, _, rfl, none_back R hD2, R.trans (same_new hD2 _), ?_⟩
      rw [upd_same, gt]
      simp only [lawP, List.map_append]
    | sil k =>
      obtain ⟨b, rfl, k1⟩ := at_sil q2
      have k1' := sqT_mono R1 k1
      refine ⟨_, rfl, b, _, _, _, rfl, rfl, k1', rfl, rfl, _, rfl, iteD sil_part ?_⟩
      refine ⟨_, rfl, b, _, _, _, rfl, rfl, k1', rfl, rfl, _, rfl, iteD sil_rep ?_⟩
      refine ⟨D, _, rfl, hD, R1, ?_⟩
      rw [hD1, gt]
      simp only [lawP, List.append_nil]
    | sam ns g0 =>
      obtain ⟨b, c, gv, rfl, k1, _⟩ := at_sam q2
      have k1' := sqT_mono R1 k1
      refine ⟨_, rfl, b, _, _, _, rfl, rfl, k1', rfl, rfl, _, rfl, iteD sam_part ?_⟩
      refine ⟨_, rfl, b, _, _, _, rfl, rfl, k1', rfl, rfl, _, rfl, iteD sam_rep ?_⟩
      refine ⟨D, _, rfl, hD, R1, ?_⟩
      rw [hD1, gt]
      simp only [lawP, List.append_nil]
  · rintro σ H1 ⟨D, o2, rfl, hD, R1, hD1⟩
    rw [hl, List.take_length] at hD1
    exact ⟨_, rfl, q H1 D R1 hD hD1⟩
end
end K46
/-! part W15 -/
set_option Elab.async false
set_option linter.all false
set_option maxRecDepth 100000
set_option maxHeartbeats 2000000
namespace K46
open PySem PySem.Spec PyProof.Rows L2 K46R
abbrev sLaw : Stmt := top 42
def spLaw (K : PySem.W.Frag) : Sp := fun vs H Q _ => ∃ (a : Addr) (ns : List Int), vs = [.ref a] ∧ SqL K H a (ns.map V.int) ∧ ns.length ≤ 63 ∧ ∀ H', Q (.bl true) H'
theorem putK_ab (v u : V) : putK ([(Sum.inr sA, v)] : List (Key × V)) (Sum.inr sB) u = [(Sum.inr sA, v), (Sum.inr sB, u)] := by
  have ne : ¬ (Sum.inr sA : Key) = Sum.inr sB := fun e => absurd (Sum.inr.inj e) (by decide +kernel)
  unfold putK
  rw [if_neg (by simp [ne])]
  rfl
theorem merge_lens (S : Snd) : mergeK [] (lensOf S) = lensOf S := by
  show putK (putK ([] : List (Key × V)) (Sum.inr sA) _) (Sum.inr sB) _ = _
  exact putK_ab _ _
theorem shaped_li (ns : List Int) : SeqAt.shaped (.list (ns.map .int)) = true := by
  have q := lay_ints ns
  unfold SeqAt.shaped
  simp only [PyData.canLay0, PyData.depth, q.1, q.2, Bool.true_and]
  decide
theorem eqv_li (ns : List Int) : PyData.eqv (.list (ns.map .int)) (.list (ns.map .int)) = true := SeqAt.eqv_refl _ (by simp only [PyData.canLay0]; exact (lay_ints ns).1)
theorem lay_strs : ∀ l : List Str, (∀ x ∈ l, x = sA ∨ x = sB) → PyData.canLayAll0 (l.map .str) = true ∧ PyData.depthAll (l.map .str) = 0
  | [], _ => by simp [PyData.canLayAll0, PyData.depthAll]
  | x :: l, h => by
    have q := lay_strs l fun y hy => h y (List.mem_cons_of_mem _ hy)
    have k := strOk_ab (h x (by simp))
    simp [PyData.canLayAll0, PyData.depthAll, PyData.canLay0, PyData.depth, k, q]
theorem ab_mem (ps : List Pc) : ∀ x ∈ abOf ps, x = sA ∨ x = sB := fun x h => by
  unfold abOf at h
  have := (List.mem_filter.mp h).1
  simpa using this
theorem shaped_ab (ps : List Pc) : SeqAt.shaped (.list ((abOf ps).map .str)) = true := by
  have q := lay_strs _ (ab_mem ps)
  unfold SeqAt.shaped
  simp only [PyData.canLay0, PyData.depth, q.1, q.2, Bool.true_and]
  decide
theorem eqv_ab (ps : List Pc) : PyData.eqv (.list ((abOf ps).map .str)) (.list ((abOf ps).map .str)) = true := SeqAt.eqv_refl _ (by simp only [PyData.canLay0]; exact (lay_strs _ (ab_mem ps)).1)
theorem flat_strs (ys : List Str) : (ys.map V.str).all flatV = true := by
  rw [List.all_map, List.all_eq_true]
  intro x _; rfl
theorem inV_strs (nm : Str) (ys : List Str) : inV (.str nm) (ys.map V.str) = decide (nm ∈ ys) := by
  unfold inV
  induction ys with
  | nil => simp
  | cons y ys ih =>
    rw [List.map_cons, List.any_cons, ih]
    show ((y == nm) || decide (nm ∈ ys)) = _
    by_cases c : y = nm
    · subst c; simp
    · have c' : ¬ nm = y := fun e => c e.symm
      simp [c, c']
/-- the dict of sounds as the loop fills it -/
def SDict (H : Hp) (p D : Addr) : Nat → Prop
  | 0 => H D = some (.dK [])
  | 1 => ∃ (la : Addr) (xa : List Int), H D = some (.dK [(Sum.inr sA, .ref la)]) ∧ H la = some (.lst (xa.map V.int)) ∧ xa.length ≤ 14 ∧ la ≠ p ∧ la ≠ D
  | _ => ∃ (la : Addr) (xa : List Int) (lb : Addr) (xb : List Int), H D = some (.dK [(Sum.inr sA, .ref la), (Sum.inr sB, .ref lb)]) ∧ (H la = some (.lst (xa.map V.int)) ∧ xa.length ≤ 14 ∧ la ≠ p) ∧ H lb = some (.lst (xb.map V.int)) ∧ xb.length ≤ 14 ∧ lb ≠ p
structure SInv (G : Hp) (p D L : Addr) (i : Nat) (H : Hp) : Prop where
  pool : PoolAt p G H
  lst : H L = some (.lst [.str sA, .str sB])
  dict : SDict H p D i
section
variable {P : Program} {w : World} {K : PySem.W.Frag} {mg : Str → Option Value} {base : Heap} {f C : Addr} {fd : FuncData}
theorem scLaw : FnScope ["_law_script", "_law_k", "_law_pool_here", "_law_sounds", "_law_name", "_law_lengths", "_law_tree", "_law_due", "_law_clip_here", "_law_names_here", "_law_turn", "_law_place"] ["_law_script"] (defScope sLaw) := ⟨rfl, rfl, rfl, by decide +kernel, rfl, by decide +kernel, by decide +kernel⟩
theorem ok_law {gP gT gC gN gM gL gE pL gLn gNm gPc gSm : Addr} {dP dT dC dN dM dL dE dLn dNm dPc dSm : FuncData} (F : Fun K "law" "law" sLaw f fd) (T : CT K mg C) (B : Bt mg)
    (DP : Df K mg "_law_pool" sPool ["_law_script", "_law_k"] gP dP) (GP : FnOk P w K mg base CX0 1 gP dP ["_law_script", "_law_k"] (spPool K))
    (DT : Df K mg "_law_take" sTake ["_law_pool_here", "_law_many"] gT dT) (GT : FnOk P w K mg base CX0 1 gT dT ["_law_pool_here", "_law_many"] spTake)
    (DC : Df K mg "_law_clip" sTree ["_law_pool_here", "_law_depth", "_law_lengths"] gC dC) (GC : FnOk P w K mg base CX0 6 gC dC ["_law_pool_here", "_law_depth", "_law_lengths"] (spClip K 5))
    (DN : Df K mg "_law_plain" sPlain ["_law_tree", "_law_sounds"] gN dN) (GN : FnOk P w K mg base CX0 6 gN dN ["_law_tree", "_law_sounds"] (spPlain K 5))
    (DM : Df K mg "_law_made" sMade ["_law_tree"] gM dM) (GM : FnOk P w K mg base CX0 42 gM dM ["_law_tree"] (spMade K C 5))
    (DL : Df K mg "_law_names" sLNames ["_law_pieces"] gL dL) (GL : FnOk P w K mg base CX0 10 gL dL ["_law_pieces"] (spLNL K 10))
    (PL : PropOf K C "length" pL gLn) (BL : Binds K dLn ["self"] []) (GLn : FnOk P w K mg base CX0 36 gLn dLn ["self"] (spLen K C))
    (MN : Md K C "names" gNm dNm ["self"]) (GNm : FnOk P w K mg base CX0 11 gNm dNm ["self"] (spNms K C))
    (MP : Md K C "pieces" gPc dPc ["self"]) (GPc : FnOk P w K mg base CX0 36 gPc dPc ["self"] (spPcs K C))
    (MS : Md K C "sample" gSm dSm ["self", "place", "sounds"]) (GSm : FnOk P w K mg base CX0 36 gSm dSm ["self", "place", "sounds"] (spSmp K C))
    (h1 : PySem.W.findIn K (.ref C) "__eq__" = some (some (.ref gE))) (h2 : PySem.W.isFn K (.ref gE) = true) (h3 : PySem.W.notFirst K C (.type "list") = true)
    (BE : Binds K dE ["self", "other"] []) (GE : FnOk P w K mg base CX0 36 gE dE ["self", "other"] (spEq K C)) :
    FnOk P w K mg base CX0 60 f fd ["_law_script"] (spLaw K) := by
  refine F.ok scLaw (fun vs H Q E h => ?_) (fun cdv A outer s H vs Q E hr h => ?_)
  · obtain ⟨a, ns, rfl, _⟩ := h
    rfl
  obtain ⟨sc, ns, rfl, hs, hln, q⟩ := h
  have hu := hu_of hr
  have hr1 : Room 1 _ := hr.mono (by omega)
  have hr6 : Room 6 _ := hr.mono (by omega)
  have hr10 : Room 10 _ := hr.mono (by omega)
  have hr11 : Room 11 _ := hr.mono (by omega)
  have hr36 : Room 36 _ := hr.mono (by omega)
  have hr37 : Room (36 + 1) _ := hr.mono (by omega)
  have hr42 : Room 42 _ := hr.mono (by omega)
  have sz : (100000 : Nat) ≤ sizeLine := by decide
  refine ⟨_, pss_cons (ps_for PassesOwn.never rfl (pi_range1 (by rfl) B.range (pa_cons (pe_callB (call_max2 rfl) (by rfl) B.max (by decide +kernel) (pa_cons pe_int (pa_cons (pe_callB (call_min2 rfl) (by rfl) B.min (by decide +kernel) (pa_cons pe_int (pa_cons (pe_callB call_len_seq (by rfl) B.len PySem.boot_len (pa_cons (pv 0) pa_nil)) pa_nil))) pa_nil))) pa_nil)) (pg_name (i := 1) scLaw.nd rfl (Or.inl rfl))
      (pss_cons (ps_set (i := 2) scLaw.nd rfl (Or.inr rfl) (pe_call GP hr1 rfl DP.mg DP.fn.kp DP.bd .nil pass0 (pa_cons (pv 0) (pa_cons (pv 1) pa_nil))))
      (pss_cons (ps_set (i := 3) scLaw.nd rfl (Or.inr rfl) pe_dnewK)
      (pss_cons (ps_for PassesOwn.never rfl (pi_list (pe_lst (pa_cons pe_str (pa_cons pe_str pa_nil)))) (pg_name (i := 4) scLaw.nd rfl (Or.inl rfl))
        (pss_one (ps_dput hu (pv 3) (pv 4) (pe_lc (own := [("_law_turn", 10)]) (g := gName 10) (tt := tYes) rfl scLaw.nd (pi_range1 (by rfl) B.range (pa_cons (pe_call GT hr1 rfl DT.mg DT.fn.kp DT.bd .nil pass0 (pa_cons (pv 2) (pa_cons pe_int pa_nil))) pa_nil)) (blkOk_by (N := ["_law_script", "_law_k", "_law_pool_here", "_law_sounds", "_law_name", "_law_lengths", "_law_tree", "_law_due", "_law_clip_here", "_law_names_here", "_law_turn", "_law_place"]) (sc := defScope sLaw) (by decide +kernel)) (fun _ _ _ _ _ => pg_name (i := 10) scLaw.nd rfl (Or.inl rfl)) (fun _ _ _ _ _ => pts_nil) (fun _ _ _ _ _ => pe_op op_sub (pe_call GT hr1 rfl DT.mg DT.fn.kp DT.bd .nil pass0 (pa_cons (pv 2) (pa_cons pe_int pa_nil))) pe_int)) rfl)))
      (pss_cons (ps_set (i := 5) scLaw.nd rfl (Or.inl rfl) (pe_disp (pps_cons pe_str (pe_callB call_len_seq (by rfl) B.len PySem.boot_len (pa_cons (pe_dget hu (pv 3) pe_str (fun _ _ => rfl)) pa_nil)) (pps_cons pe_str (pe_callB call_len_seq (by rfl) B.len PySem.boot_len (pa_cons (pe_dget hu (pv 3) pe_str (fun _ _ => rfl)) pa_nil)) pps_nil)) (by decide) (by decide) (by decide) (by decide)))
      (pss_cons (ps_set (i := 6) scLaw.nd rfl (Or.inl rfl) (pe_call GC hr6 rfl DC.mg DC.fn.kp DC.bd .nil pass0 (pa_cons (pv 2) (pa_cons pe_int (pa_cons (pv 5) pa_nil)))))
      (pss_cons (ps_set (i := 7) scLaw.nd rfl (Or.inl rfl) (pe_call GN hr6 rfl DN.mg DN.fn.kp DN.bd .nil pass0 (pa_cons (pv 6) (pa_cons (pv 3) pa_nil))))
      (pss_cons (ps_set (i := 8) scLaw.nd rfl (Or.inr rfl) (pe_call GM hr42 rfl DM.mg DM.fn.kp DM.bd .nil pass0 (pa_cons (pv 6) pa_nil)))
      (pss_cons (ps_if (PW.pt (pw_or (pt_cmpR op_ne (pe_prop (pv 8) T.cl PL GLn hr37 BL .nil pass0 rfl) (pe_callB call_len_seq (by rfl) B.len PySem.boot_len (pa_cons (pv 7) pa_nil)) (nomark _))
          (pw_or1 (pt_cmpR (op_neD hr.units) (pe_lc (own := [("_law_place", 11)]) (g := gName 11) (tt := tYes) rfl scLaw.nd (pi_range1 (by rfl) B.range (pa_cons (pe_callB call_len_seq (by rfl) B.len PySem.boot_len (pa_cons (pv 7) pa_nil)) pa_nil)) (blkOk_by (N := ["_law_script", "_law_k", "_law_pool_here", "_law_sounds", "_law_name", "_law_lengths", "_law_tree", "_law_due", "_law_clip_here", "_law_names_here", "_law_turn", "_law_place"]) (sc := defScope sLaw) (by decide +kernel)) (fun _ _ _ _ _ => pg_name (i := 11) scLaw.nd rfl (Or.inl rfl)) (fun _ _ _ _ _ => pts_nil) (fun _ _ _ _ _ => pe_meth (pv 8) T.cl MS.mt GSm hr36 MS.bd .nil pass0 (pa_cons (pv 11) (pa_cons (pv 3) pa_nil)))) (pv 7) (nomark _))))) (pss_one ps_never) pss_nil)
      (pss_cons (ps_set (i := 9) scLaw.nd rfl (Or.inr rfl) (pe_callB cr_sortedS (by rfl) B.sorted (by decide +kernel) (pa_cons (pe_call GL hr10 rfl DL.mg DL.fn.kp DL.bd .nil pass0 (pa_cons (pe_meth0 (pv 8) T.cl MP.mt GPc hr36 MP.bd .nil pass0) pa_nil)) pa_nil)))
      (pss_cons (ps_if (pt_cmpR (op_neD hr.units) (pe_meth0 (pv 8) T.cl MN.mt GNm hr11 MN.bd .nil pass0)
          (pe_lc (own := [("_law_name", 4)]) (g := gName 4) rfl scLaw.nd (pi_list (pe_lst (pa_cons pe_str (pa_cons pe_str pa_nil)))) (blkOk_by (N := ["_law_script", "_law_k", "_law_pool_here", "_law_sounds", "_law_name", "_law_lengths", "_law_tree", "_law_due", "_law_clip_here", "_law_names_here", "_law_turn", "_law_place"]) (sc := defScope sLaw) (by decide +kernel)) (fun _ _ _ _ _ => pg_name (i := 4) scLaw.nd rfl (Or.inl rfl)) (fun _ _ _ _ _ => pts_one (pt_cmpR (r := rIn K false) op_in_seq (pv 4) (pv 9) (by with_unfolding_all rfl))) (fun _ _ _ _ _ => pv 4)) (nomark _)) (pss_one ps_never) pss_nil)
      (pss_one (ps_if (PW.pt (pw_or (pt_not (pt_cmpR (op_ownEq h1 h2 h3 GE hr36 BE pass0) (pv 8) (pe_call GM hr42 rfl DM.mg DM.fn.kp DM.bd .nil pass0 (pa_cons (pv 6) pa_nil)) (nomark _)))
          (pw_or1 (pt_cmpR (op_ownEq h1 h2 h3 GE hr36 BE pass0) (pv 8) (pv 7) (nomark _))))) (pss_one ps_never) pss_nil)))))))))))))
    (pss_one (ps_ret pe_bl)), ?_⟩
  refine ⟨_, rfl, sc, _, rfl, .inl hs, _, _, rfl, _, _, rfl, ?_⟩
  have hj : ∀ n : Nat, (-(2 ^ 62) : Int) ≤ (if (if (n : Int) < 10 then (n : Int) else 10) > 1 then (if (n : Int) < 10 then (n : Int) else 10) else 1) ∧ (if (if (n : Int) < 10 then (n : Int) else 10) > 1 then (if (n : Int) < 10 then (n : Int) else 10) else 1) ≤ (10 : Int) := fun n => by
    split <;> split <;> omega
  obtain ⟨j1, j2⟩ := hj (ns.map V.int).length
  generalize (if (if (((ns.map V.int).length : Nat) : Int) < 10 then (((ns.map V.int).length : Nat) : Int) else 10) > 1 then (if (((ns.map V.int).length : Nat) : Int) < 10 then (((ns.map V.int).length : Nat) : Int) else 10) else 1) = j at j1 j2 ⊢
  refine ⟨j, rfl, j1, by omega, for_range (fun i σ H' => ∃ (o1 o2 o3 o4 o5 o6 o7 o8 o9 o10 o11 : Option V), σ = [some (.ref sc), o1, o2, o3, o4, o5, o6, o7, o8, o9, o10, o11] ∧ Same H H')
    ⟨none, none, none, none, none, none, none, none, none, none, none, rfl, Same.refl _⟩ ?_ (fun σ H' _ => q H')⟩
  rintro i σ H1 hi ⟨o1, o2, o3, o4, o5, o6, o7, o8, o9, o10, o11, rfl, R1⟩
  -- the pool
  refine ⟨_, rfl, _, rfl, sc, ns, _, rfl, R1.seq hs, by omega, ⟨by omega, by omega⟩, fun H2 p a0 b0 R2 np ep => ?_⟩
  have tw : TwoAt H2 p := ⟨a0, b0, ep⟩
  -- the sounds
  intro D nD
  have P3 := (PoolAt.refl tw).new (o := .dK []) nD
  have Dp0 := (PoolAt.refl tw).ne nD
  refine ⟨by show 2 ≤ sizeLine; omega, fun L nL => ?_⟩
  have P4 := P3.new (o := .lst [.str sA, .str sB]) nL
  have Lp := P3.ne nL
  have LD : D ≠ L := ne_of_none upd_same nL
  refine ⟨L, rfl, ⟨_, SqL.of upd_same⟩, for_list (K := K) (a := L) (xs := [.str sA, .str sB]) (fun i σ H' => ∃ (o1 o4 o5 o6 o7 o8 o9 o10 o11 : Option V), σ = [some (.ref sc), o1, some (.ref p), some (.ref D), o4, o5, o6, o7, o8, o9, o10, o11] ∧ SInv H2 p D L i H')
    ⟨_, _, _, _, _, _, _, _, _, rfl, P4, upd_same, ?_⟩ (fun i σ H' _ ⟨_, _, _, _, _, _, _, _, _, _, R⟩ => SqL.of R.lst) ?_ ?_⟩
  · show _ = _
    rw [upd_ne LD, upd_same]
  · rintro k z σ H5 hk ⟨o1, o4, o5, o6, o7, o8, o9, o10, o11, rfl, J⟩
    obtain ⟨a1, b1, e1⟩ := J.pool.two
    have P5 := PoolAt.refl J.pool.two
    refine ⟨_, rfl, p, a1, b1, _, rfl, e1, ⟨by omega, by omega⟩, fun x1 y1 m1 l1 u1 => ?_⟩
    have P6 := P5.took x1 y1
    refine ⟨_, rfl, by omega, by omega, fun l nl => ?_⟩
    have nlp := P6.ne nl
    have nl0 := P6.back nl
    refine lc_range (fun i H' => PoolAt p H5 H' ∧ ∃ xs : List Int, xs.length = i ∧ H' l = some (.lst (xs.map V.int))) ⟨P6.new nl, [], rfl, upd_same⟩ ?_ ?_
    · rintro i' H' hi' ⟨P7, xs, en, eD⟩
      refine ⟨rfl, ?_⟩
      obtain ⟨a5, b5, e5⟩ := P7.two
      refine ⟨_, rfl, p, a5, b5, _, rfl, e5, ⟨by omega, by omega⟩, fun x5 y5 m5 l5 u5 => ?_⟩
      have P8 := P7.took x5 y5
      have eD5 := (upd_ne (o := .lst [.int x5, .int y5]) nlp).trans eD
      exact ⟨_, _, rfl, rfl, _, eD5, by rw [List.length_map]; omega, P8.put nlp nl0, xs ++ [m5 - 49], by rw [List.length_append, en]; rfl, by rw [upd_same, List.map_append]; rfl⟩
    · rintro H7 ⟨P7, xs, en, eD⟩
      have lx : xs.length ≤ 14 := by omega
      match k, hk, J with
      | 0, hk, J =>
        cases hk
        have lD : l ≠ D := (ne_of_none J.dict nl0).symm
        have d := P7.at_ Dp0 J.dict
        refine ⟨_, rfl, _, rfl, D, _, rfl, DPut.k (k := Sum.inr sA) d (by show 0 < sizeLine; omega), ?_⟩
        refine ⟨_, _, _, _, _, _, _, _, _, rfl, ⟨(J.pool.trans P7).put Dp0 nD, ?_, l, xs, ?_, ?_, lx, nlp, lD⟩⟩
        · rw [upd_ne LD.symm]; exact P7.at_ Lp J.lst
        · rw [upd_same]; rfl
        · rw [upd_ne lD]; exact eD
      | 1, hk, J =>
        cases hk
        obtain ⟨la, xa, d, ea, lxa, nap, naD⟩ := J.dict
        have lD : l ≠ D := (ne_of_none d nl0).symm
        refine ⟨_, rfl, _, rfl, D, _, rfl, DPut.k (k := Sum.inr sB) (P7.at_ Dp0 d) (by show 1 < sizeLine; omega), ?_⟩
        refine ⟨_, _, _, _, _, _, _, _, _, rfl, ⟨(J.pool.trans P7).put Dp0 nD, ?_, la, xa, l, xs, ?_, ⟨?_, lxa, nap⟩, ?_, lx, nlp⟩⟩
        · rw [upd_ne LD.symm]; exact P7.at_ Lp J.lst
        · rw [upd_same, putK_ab]
        · rw [upd_ne naD]; exact P7.at_ nap ea
        · rw [upd_ne lD]; exact eD
      | k + 2, hk, J => simp at hk
  · rintro σ H5 ⟨o1, o4, o5, o6, o7, o8, o9, o10, o11, rfl, J⟩
    obtain ⟨la, xa, lb, xb, d, ⟨ea, lxa, nap⟩, eb, lxb, nbp⟩ := J.dict
    obtain ⟨S, hSa, hSb, hS⟩ : ∃ S : Snd, S sA = xa ∧ S sB = xb ∧ ∀ nm, (S nm).length ≤ 14 :=
      ⟨fun nm => if nm = sA then xa else if nm = sB then xb else [], if_pos rfl, by show (if sB = sA then xa else if sB = sB then xb else []) = xb; rw [if_neg (by decide +kernel), if_pos rfl], fun nm => by
        show (if nm = sA then xa else if nm = sB then xb else []).length ≤ 14
        split
        · exact lxa
        · split
          · exact lxb
          · simp⟩
    subst hSa
    subst hSb
    have P5 := PoolAt.refl J.pool.two
    have sn5 : SndAt K H5 D S := ⟨la, lb, d, SqL.of ea, SqL.of eb⟩
    -- the lengths
    intro ld nld
    have sn6 := sn5.mono (same_new nld (.dK []))
    obtain ⟨q1, g1, w1⟩ := sn6.get (.inl rfl)
    obtain ⟨q2, g2, w2⟩ := sn6.get (.inr rfl)
    refine ⟨_, rfl, D, _, rfl, g1, q1, _, rfl, .inl w1, _, rfl, D, _, rfl, g2, q2, _, rfl, .inl w2, upd_same, lensOf S, by rw [List.length_map, List.length_map]; rfl, by show 2 ≤ 15; omega, ?_⟩
    rw [upd_upd, merge_lens]
    have P6 := P5.new (o := .dK (lensOf S)) nld
    -- the tree
    refine ⟨_, rfl, _, rfl, S, p, ld, 4, rfl, ⟨by omega, by omega⟩, P6.two, upd_same, hS, fun H8 v t P8 T8 tk8 => ?_⟩
    have P9 := P6.trans P8
    have sn8 : SndAt K H8 D S := ⟨la, lb, P9.at_ Dp0 d, SqL.of (P9.at_ nap ea), SqL.of (P9.at_ nbp eb)⟩
    have T8' := tat_mono hide_le _ _ T8
    have tk : tok S 4 t := tk8
    have R8 : Same H H8 := fun b o e => by
      have e1 := R1 _ _ e
      exact (J.pool.trans P9).at_ (ne_of_none e1 np) (R2 _ _ e1)
    clear P8 P9 P6 T8 tk8 P5 sn6 sn5 g1 g2 w1 w2
    -- the plain list
    refine ⟨_, rfl, _, rfl, S, v, D, 4, t, rfl, ⟨by omega, by omega⟩, T8', tk, hS, sn8, fun H9 pd R9 npd epd => ?_⟩
    -- the clip
    refine ⟨_, rfl, S, v, 4, t, rfl, ⟨by omega, by omega⟩, tat_mono R9 _ _ T8', tk, hS, fun H10 r R10 c10 => ?_⟩
    have gd := made_good hS 4 t tk
    have bx := mb_of gd (by omega)
    have lp := plain_len hS tk (by omega)
    have e1 := tlen_sems _ gd.w
    rw [gd.sem] at e1
    obtain ⟨o, dx, x, rfl, i10, j10⟩ := id c10
    have epd10 := R10 _ _ epd
    have sn10 := sn8.mono (R9.trans R10)
    refine ⟨_, rfl, o, dx, _, rfl, i10, _, made t, rfl, c10, bx, _, rfl, pd, _, rfl, .inl (SqL.of epd10), rfl, _, rfl, ?_⟩
    refine iteNS (by rw [e1, List.length_map]) ?_
    refine ⟨_, rfl, pd, _, rfl, .inl (SqL.of epd10), _, rfl, by omega, by rw [List.length_map]; omega, fun Dl nDl => ?_⟩
    rw [List.length_map]
    refine lc_range (fun i H' => Same H10 H' ∧ H' Dl = some (.lst (((plain S t).take i).map V.int))) ⟨same_new nDl _, upd_same⟩ ?_ ?_
    · rintro i' H' hi' ⟨R, eD⟩
      refine ⟨rfl, ?_⟩
      refine ⟨_, rfl, o, dx, _, rfl, R _ _ i10, cf_no _ _ (by decide +kernel) (by decide +kernel), _, rfl, _, rfl, S, 4, _, made t, 0 + (i' : Int), D, rfl, c10.mono R, gd.w, bx, ⟨by omega, by omega⟩, sn10.mono R, fun H'' R'' => ?_⟩
      have hx : (plain S t)[i']? = some ((plain S t).getD i' 0) := by
        have c : i' < (plain S t).length := by omega
        rw [List.getD_eq_getElem?_getD, List.getElem?_eq_getElem c]; rfl
      have ev : samGo S (made t) (0 + (i' : Int)) = (plain S t).getD i' 0 := by
        rw [sam_all _ gd.w _ (by omega) (by omega), gd.sem]
        congr 1; omega
      refine ⟨_, R'' _ _ eD, by rw [List.length_map, List.length_take]; omega, keep_new nDl (R.trans R''), ?_⟩
      rw [upd_same, ev, take_map_snoc _ _ hx]
    rintro H11 ⟨R11, eD11⟩
    rw [Int.toNat_natCast, List.take_length] at eD11
    refine ⟨_, rfl, .list ((plain S t).map .int), .list ((plain S t).map .int), .lst (SqL.of eD11) (dpa_of_ints _), .lst (SqL.of (R11 _ _ epd10)) (dpa_of_ints _), shaped_li _, shaped_li _, _, rfl, ?_⟩
    refine iteN (by rw [eqv_li]; rfl) ?_
    have c11 := c10.mono R11
    -- the names
    refine ⟨_, rfl, o, dx, _, rfl, R11 _ _ i10, cf_no _ _ (by decide +kernel) (by decide +kernel), _, made t, rfl, c11, bx, fun H12 pp xs R12 epp dpp => ?_⟩
    have dl := gd.dp
    have tl := gd.tl
    have tl4 := tb_le (show 4 ≤ 4 by omega)
    refine ⟨S, 4, made t, pp, xs, rfl, epp, dpp, gd.w, by show tlen (made t) ≤ 1000000; omega, by omega, fun H13 pl R13 npl epl => ?_⟩
    have nm4 : (lawNs (made t)).length ≤ 44 := by
      have z := gd.nm
      simp only [nb] at z
      exact z
    refine ⟨pl, lawNs (made t), rfl, SqL.of epl, by omega, fun ys p14 per sy n14 => ?_⟩
    have R14 := R11.trans (R12.trans (R13.trans (same_new n14 (.lst (ys.map V.str)))))
    have e14 : (upd H13 p14 (.lst (ys.map V.str))) p14 = some (.lst (ys.map V.str)) := upd_same
    generalize upd H13 p14 (.lst (ys.map V.str)) = H14 at R14 e14 ⊢
    have c14 := c10.mono R14
    refine ⟨_, rfl, o, dx, _, rfl, R14 _ _ i10, cf_no _ _ (by decide +kernel) (by decide +kernel), _, made t, rfl, c14, bx, fun H15 pn R15 epn => ?_⟩
    refine ⟨by show 2 ≤ sizeLine; omega, fun L2 nL2 => ⟨L2, rfl, ⟨_, SqL.of upd_same⟩, fun D3 nD3 => ?_⟩⟩
    have R16 := R15.trans (same_new nL2 (.lst [.str sA, .str sB]))
    refine lc_list (K := K) (a := L2) (xs := [.str sA, .str sB]) (fun i H' => Same (upd H15 L2 (.lst [.str sA, .str sB])) H' ∧ H' D3 = some (.lst ((([sA, sB].take i).filter fun x => decide (x ∈ lawNs (made t))).map V.str)))
      ⟨same_new nD3 _, upd_same⟩ (fun i H' _ R => SqL.of (R.1 _ _ upd_same)) ?_ ?_
    · rintro i' z H' hi' ⟨R, eD⟩
      obtain ⟨nm, ez, rfl⟩ : ∃ nm, [sA, sB][i']? = some nm ∧ z = V.str nm := by
        match i', hi' with
        | 0, hi' => cases hi'; exact ⟨_, rfl, rfl⟩
        | 1, hi' => cases hi'; exact ⟨_, rfl, rfl⟩
        | i' + 2, hi' => simp at hi'
      have li : i' < 2 := (List.getElem?_eq_some_iff.mp hi').1
      refine ⟨rfl, ?_⟩
      refine ⟨_, rfl, _, rfl, p14, _, rfl, .inl (SqL.of (R _ _ (R16 _ _ e14))), rfl, flat_strs ys, _, rfl, ?_⟩
      have iv : inV (.str nm) (ys.map V.str) = decide (nm ∈ lawNs (made t)) := by
        rw [inV_strs]
        exact decide_eq_decide.mpr per.mem_iff
      have ft : ([sA, sB].take (i' + 1)).filter (fun x => decide (x ∈ lawNs (made t))) = ([sA, sB].take i').filter (fun x => decide (x ∈ lawNs (made t))) ++ (if nm ∈ lawNs (made t) then [nm] else []) := by
        rw [List.take_add_one, ez, List.filter_append]
        congr 1
        by_cases c : nm ∈ lawNs (made t)
        · simp [c]
        · simp [c]
      by_cases c : nm ∈ lawNs (made t)
      · refine iteB (iv.trans (decide_eq_true c)) ?_
        refine ⟨_, rfl, _, eD, ?_, keep_new nD3 R, ?_⟩
        · have z := List.length_filter_le (fun x => decide (x ∈ lawNs (made t))) ([sA, sB].take i')
          rw [List.length_take] at z
          rw [List.length_map]
          omega
        · rw [upd_same, ft, if_pos c, List.map_append]; rfl
      · refine iteN (iv.trans (decide_eq_false c)) ⟨R, ?_⟩
        rw [eD, ft, if_neg c, List.append_nil]
    rintro H17 ⟨R17, eD17⟩
    refine ⟨.list ((abOf (made t)).map .str), .list ((abOf (made t)).map .str), .lst (SqL.of (R17 _ _ (same_new nL2 _ _ _ epn))) (dpa_of_strs _), .lst (SqL.of eD17) (dpa_of_strs _), shaped_ab _, shaped_ab _, _, rfl, ?_⟩
    refine iteN (by rw [eqv_ab]; rfl) ?_
    have R18 := R14.trans (R16.trans R17)
    have c18 := c10.mono R18
    -- the comparison
    refine ⟨_, rfl, _, rfl, S, v, 4, t, rfl, ⟨by omega, by omega⟩, tat_mono (R9.trans (R10.trans R18)) _ _ T8', tk, hS, fun H19 r2 R19 c19 => ?_⟩
    obtain ⟨o2, dx2, x2, rfl, i19, j19⟩ := id c19
    have R20 := R18.trans R19
    refine ⟨o, dx, _, o2, rfl, rfl, R20 _ _ i10, .inl ⟨_, _, i19⟩, _, _, made t, rfl, c10.mono R20, bx, .inl ⟨c19, _, rfl, ?_⟩⟩
    refine iteF ?_
    refine ⟨_, rfl, _, rfl, o, dx, _, pd, rfl, rfl, R20 _ _ i10, .inr ⟨_, R20 _ _ epd10⟩, _, _, made t, rfl, c10.mono R20, bx, .inr ⟨⟨pd, _, rfl, R20 _ _ epd10⟩, _, rfl, ?_⟩⟩
    refine iteF ?_
    exact ⟨_, _, _, _, _, _, _, _, _, _, _, rfl, R8.trans (R9.trans (R10.trans R20))⟩
end
end K46
/-! part W16 -/
set_option Elab.async false
set_option linter.all false
set_option maxRecDepth 100000
set_option maxHeartbeats 2000000
namespace K46
open PySem PySem.Spec PyProof.Rows L2 K46R
section
variable {P : Program} {w : World} {K : PySem.W.Frag} {mg : Str → Option Value} {base : Heap} {C : Addr}
theorem fn_none {f : Addr} {fd : FuncData} {k : Nat} {ps : List Str} {sp : Sp} (no : ∀ vs H Q E, ¬ sp vs H Q E) : FnOk P w K mg base CX0 k f fd ps sp :=
  ⟨fun vs H Q E h => absurd h (no vs H Q E), fun A outer s H args us vs Q E _ _ _ _ h => absurd h (no vs H Q E)⟩
variable {fIsInt fBetw fIsRow fReqS fIsName fPlen fTlen fPcnt fMerged fBoth fRepd fCutR fCutP fCutPs fGain fGs fNames fSam fPool fTake fTree fPlain fMade fLN fPart fSil fSams fLen fNms fPcs fReq fCut fGnd fSmp fAdd fMul fEq fInit : Addr} {dIsInt dBetw dIsRow dReqS dIsName dPlen dTlen dPcnt dMerged dBoth dRepd dCutR dCutP dCutPs dGain dGs dNames dSam dPool dTake dTree dPlain dMade dLN dPart dSil dSams dLen dNms dPcs dReq dCut dGnd dSmp dAdd dMul dEq dInit : FuncData}
theorem plen_all (DPlen : Df K mg "piece_length" sPlen ["piece"] fPlen dPlen) (DTlen : Df K mg "total_length" sTlen ["pieces"] fTlen dTlen) (B : Bt mg) : ∀ n : Nat, FnOk P w K mg base CX0 (2 * n) fPlen dPlen ["piece"] (spPlen K n)
  | 0 => fn_none fun vs H Q E h => by
    obtain ⟨S, m, p, v, _, _, _, _, hd, _⟩ := h
    omega
  | n + 1 => ok_plen DPlen.fn DTlen (ok_tlen DTlen.fn DPlen (plen_all DPlen DTlen B n) B.sum) B.len
theorem tlen_all (DPlen : Df K mg "piece_length" sPlen ["piece"] fPlen dPlen) (DTlen : Df K mg "total_length" sTlen ["pieces"] fTlen dTlen) (B : Bt mg) (n : Nat) : FnOk P w K mg base CX0 (2 * n + 1) fTlen dTlen ["pieces"] (spTlen K n) := ok_tlen DTlen.fn DPlen (plen_all DPlen DTlen B n) B.sum
theorem pcnt_all (DPcnt : Df K mg "piece_count" sPcnt ["pieces"] fPcnt dPcnt) (B : Bt mg) : ∀ n : Nat, FnOk P w K mg base CX0 n fPcnt dPcnt ["pieces"] (spPcnt K n)
  | 0 => fn_none fun vs H Q E h => by
    obtain ⟨S, m, p, v, _, _, _, _, hd, _⟩ := h
    omega
  | n + 1 => ok_pcnt DPcnt.fn DPcnt (pcnt_all DPcnt B n) B.sum
theorem both_all (DMerged : Df K mg "merged" sMerged ["first", "second"] fMerged dMerged) (DBoth : Df K mg "both_pieces" sBoth ["first", "second"] fBoth dBoth) : FnOk P w K mg base CX0 2 fBoth dBoth ["first", "second"] (spBoth K) := ok_both DBoth.fn DMerged (ok_merged DMerged.fn)
theorem cutr_all (DPlen : Df K mg "piece_length" sPlen ["piece"] fPlen dPlen) (DTlen : Df K mg "total_length" sTlen ["pieces"] fTlen dTlen) (DMerged : Df K mg "merged" sMerged ["first", "second"] fMerged dMerged) (DBoth : Df K mg "both_pieces" sBoth ["first", "second"] fBoth dBoth) (DRepd : Df K mg "repeated_pieces" sRepd ["pieces", "count"] fRepd dRepd) (DCutR : Df K mg "cut_repeat" sCutR ["piece", "start", "end"] fCutR dCutR) (DCutP : Df K mg "cut_piece" sCutP ["piece", "start", "end"] fCutP dCutP) (DCutPs : Df K mg "cut_pieces" sCutPs ["pieces", "start", "end"] fCutPs dCutPs) (B : Bt mg) : ∀ n : Nat, FnOk P w K mg base CX0 (3 * n + 2) fCutR dCutR ["piece", "start", "end"] (spCutR K n)
  | 0 => fn_none fun vs H Q E h => by
    obtain ⟨S, m, ps, n, a, b, v, _, _, _, _, hd, _⟩ := h
    omega
  | n + 1 => ok_cutR DCutR.fn DTlen (tlen_all DPlen DTlen B n) DCutPs (ok_cutPs DCutPs.fn DPlen (plen_all DPlen DTlen B n) DCutP (ok_cutP DCutP.fn DCutR (cutr_all DPlen DTlen DMerged DBoth DRepd DCutR DCutP DCutPs B n)) DBoth (both_all DMerged DBoth) B.max B.min)
      DBoth (both_all DMerged DBoth) DRepd (ok_repd DRepd.fn B.len)
theorem cutps_all (DPlen : Df K mg "piece_length" sPlen ["piece"] fPlen dPlen) (DTlen : Df K mg "total_length" sTlen ["pieces"] fTlen dTlen) (DMerged : Df K mg "merged" sMerged ["first", "second"] fMerged dMerged) (DBoth : Df K mg "both_pieces" sBoth ["first", "second"] fBoth dBoth) (DRepd : Df K mg "repeated_pieces" sRepd ["pieces", "count"] fRepd dRepd) (DCutR : Df K mg "cut_repeat" sCutR ["piece", "start", "end"] fCutR dCutR) (DCutP : Df K mg "cut_piece" sCutP ["piece", "start", "end"] fCutP dCutP) (DCutPs : Df K mg "cut_pieces" sCutPs ["pieces", "start", "end"] fCutPs dCutPs) (B : Bt mg) (n : Nat) : FnOk P w K mg base CX0 (3 * n + 4) fCutPs dCutPs ["pieces", "start", "end"] (spCutPs K n) :=
  ok_cutPs DCutPs.fn DPlen (plen_all DPlen DTlen B n) DCutP (ok_cutP DCutP.fn DCutR (cutr_all DPlen DTlen DMerged DBoth DRepd DCutR DCutP DCutPs B n)) DBoth (both_all DMerged DBoth) B.max B.min
theorem gainpcs_all (DGain : Df K mg "gained_pieces" sGain ["pieces", "gain"] fGain dGain) (B : Bt mg) : ∀ n : Nat, FnOk P w K mg base CX0 n fGain dGain ["pieces", "gain"] (spGain K n)
  | 0 => fn_none fun vs H Q E h => by
    obtain ⟨S, m, ps, x, v, u, _, _, _, _, _, _, hd, _⟩ := h
    omega
  | n + 1 => ok_gain DGain.fn DGain (gainpcs_all DGain B n) B.tuple
theorem names_all2 (DNames : Df K mg "names_in" sNames ["pieces"] fNames dNames) : ∀ n : Nat, FnOk P w K mg base CX0 n fNames dNames ["pieces"] (spNames K n)
  | 0 => fn_none fun vs H Q E h => by
    obtain ⟨S, m, ps, v, _, _, _, hd, _⟩ := h
    omega
  | n + 1 => ok_names DNames.fn DNames (names_all2 DNames n)
theorem samp_all (DPlen : Df K mg "piece_length" sPlen ["piece"] fPlen dPlen) (DTlen : Df K mg "total_length" sTlen ["pieces"] fTlen dTlen) (DGs : Df K mg "gained_sample" sGs ["value", "gains"] fGs dGs) (DSam : Df K mg "sample_of" sSam ["pieces", "place", "sounds"] fSam dSam) (B : Bt mg) : ∀ n : Nat, FnOk P w K mg base CX0 (2 * n + 2) fSam dSam ["pieces", "place", "sounds"] (spSam K n)
  | 0 => fn_none fun vs H Q E h => by
    obtain ⟨S, m, ps, j, v, sd, _, _, _, _, hd, _⟩ := h
    omega
  | n + 1 => ok_sam DSam.fn DSam (samp_all DPlen DTlen DGs DSam B n) DPlen (plen_all DPlen DTlen B (n + 1)) DTlen (tlen_all DPlen DTlen B n) DGs (ok_gs DGs.fn)
theorem tree_all (DTake : Df K mg "_law_take" sTake ["_law_pool_here", "_law_many"] fTake dTake) (DTree : Df K mg "_law_clip" sTree ["_law_pool_here", "_law_depth", "_law_lengths"] fTree dTree) (B : Bt mg) : ∀ n : Nat, FnOk P w K mg base CX0 (n + 1) fTree dTree ["_law_pool_here", "_law_depth", "_law_lengths"] (spClip K n)
  | 0 => fn_none fun vs H Q E h => by
    obtain ⟨S, p, ld, d, _, hd, _⟩ := h
    omega
  | n + 1 => ok_tree DTree.fn B DTake (ok_take DTake.fn B) DTree (tree_all DTake DTree B n)
theorem plain_all (DPlain : Df K mg "_law_plain" sPlain ["_law_tree", "_law_sounds"] fPlain dPlain) (B : Bt mg) : ∀ n : Nat, FnOk P w K mg base CX0 (n + 1) fPlain dPlain ["_law_tree", "_law_sounds"] (spPlain K n)
  | 0 => fn_none fun vs H Q E h => by
    obtain ⟨S, v, sd, d, t, _, hd, _⟩ := h
    omega
  | n + 1 => ok_plain DPlain.fn B DPlain (plain_all DPlain B n)
theorem lnt_all (DLN : Df K mg "_law_names" sLNames ["_law_pieces"] fLN dLN) : ∀ n : Nat, FnOk P w K mg base CX0 n fLN dLN ["_law_pieces"] (spLNT K n)
  | 0 => fn_none fun vs H Q E h => by
    obtain ⟨S, m, ps, v, _, _, _, _, hd, _⟩ := h
    omega
  | n + 1 => ok_lnT DLN.fn DLN (lnt_all DLN n)
theorem made_all {mc : Value} {pSil pSams pPart pLen : Addr} {fo ro : Option Value}
    (T : CT K mg C)
    (B : Bt mg)
    (RC : ClX.CRead K C mc)
    (DMade : Df K mg "_law_made" sMade ["_law_tree"] fMade dMade)
    (SSil : CStat K C mc "silence" pSil fSil) (BSil : Binds K dSil ["count"] []) (GSil : FnOk P w K mg base CX0 36 fSil dSil ["count"] (spSil K C))
    (SSams : CStat K C mc "samples" pSams fSams) (BSams : Binds K dSams ["sound"] []) (GSams : FnOk P w K mg base CX0 36 fSams dSams ["sound"] (spSams K C))
    (SPart : CStat K C mc "part" pPart fPart) (BPart : Binds K dPart ["name", "start", "end"] []) (GPart : FnOk P w K mg base CX0 36 fPart dPart ["name", "start", "end"] (spPart K C))
    (OAdd : OpOf K C "__add__" fAdd) (BAdd : Binds K dAdd ["self", "other"] []) (GAdd : FnOk P w K mg base CX0 36 fAdd dAdd ["self", "other"] (spAdd K C))
    (OMul : OpOf K C "__mul__" fMul) (BMul : Binds K dMul ["self", "other"] []) (GMul : FnOk P w K mg base CX0 36 fMul dMul ["self", "other"] (spMul K C))
    (m1 : PySem.W.findIn K (.ref C) "__rmul__" = some none) (m2 : PySem.W.findIn K (.type "int") "__mul__" = some fo) (m3 : PySem.W.findIn K (.type "int") "__rmul__" = some ro) (m4 : PySem.W.subIn K (.type "int") (.ref C) = some false)
    (MGnd : Md K C "gained" fGnd dGnd ["self", "top", "bottom"]) (GGnd : FnOk P w K mg base CX0 36 fGnd dGnd ["self", "top", "bottom"] (spGnd K C))
    (MCut : Md K C "cut" fCut dCut ["self", "start", "end"]) (GCut : FnOk P w K mg base CX0 36 fCut dCut ["self", "start", "end"] (spCut K C))
    (PLen : PropOf K C "length" pLen fLen) (BLen : Binds K dLen ["self"] []) (GLen : FnOk P w K mg base CX0 36 fLen dLen ["self"] (spLen K C)) : ∀ n : Nat, FnOk P w K mg base CX0 (n + 37) fMade dMade ["_law_tree"] (spMade K C n)
  | 0 => fn_none fun vs H Q E h => by
    obtain ⟨S, v, d, t, _, hd, _⟩ := h
    omega
  | n + 1 => ok_made DMade.fn T B RC DMade (made_all T B RC DMade SSil BSil GSil SSams BSams GSams SPart BPart GPart OAdd BAdd GAdd OMul BMul GMul m1 m2 m3 m4 MGnd GGnd MCut GCut PLen BLen GLen n) SSil BSil GSil SSams BSams GSams SPart BPart GPart OAdd BAdd GAdd OMul BMul GMul m1 m2 m3 m4 MGnd GGnd MCut GCut PLen BLen GLen
theorem all_ok {f : Addr} {fd : FuncData} {mc : Value} {pSil pSams pPart pLen : Addr} {fo ro : Option Value} {dvs : List V} {kws : List (Str × V)} (F : Fun K "law" "law" sLaw f fd) (T : CT K mg C) (B : Bt mg) (cs : Cst mg) (RC : ClX.CRead K C mc) (X : EqT K C)
    (DIsInt : Df K mg "is_integer" sIsInt ["value"] fIsInt dIsInt)
    (DBetw : Df K mg "is_between" sBetw ["value", "least", "most"] fBetw dBetw)
    (DIsRow : Df K mg "is_row" sIsRow ["value"] fIsRow dIsRow)
    (DReqS : Df K mg "require_sound" sReqS ["sound"] fReqS dReqS)
    (DIsName : Df K mg "is_name" sIsName ["value"] fIsName dIsName)
    (DPlen : Df K mg "piece_length" sPlen ["piece"] fPlen dPlen)
    (DTlen : Df K mg "total_length" sTlen ["pieces"] fTlen dTlen)
    (DPcnt : Df K mg "piece_count" sPcnt ["pieces"] fPcnt dPcnt)
    (DMerged : Df K mg "merged" sMerged ["first", "second"] fMerged dMerged)
    (DBoth : Df K mg "both_pieces" sBoth ["first", "second"] fBoth dBoth)
    (DRepd : Df K mg "repeated_pieces" sRepd ["pieces", "count"] fRepd dRepd)
    (DCutR : Df K mg "cut_repeat" sCutR ["piece", "start", "end"] fCutR dCutR)
    (DCutP : Df K mg "cut_piece" sCutP ["piece", "start", "end"] fCutP dCutP)
    (DCutPs : Df K mg "cut_pieces" sCutPs ["pieces", "start", "end"] fCutPs dCutPs)
    (DGain : Df K mg "gained_pieces" sGain ["pieces", "gain"] fGain dGain)
    (DGs : Df K mg "gained_sample" sGs ["value", "gains"] fGs dGs)
    (DNames : Df K mg "names_in" sNames ["pieces"] fNames dNames)
    (DSam : Df K mg "sample_of" sSam ["pieces", "place", "sounds"] fSam dSam)
    (DPool : Df K mg "_law_pool" sPool ["_law_script", "_law_k"] fPool dPool)
    (DTake : Df K mg "_law_take" sTake ["_law_pool_here", "_law_many"] fTake dTake)
    (DTree : Df K mg "_law_clip" sTree ["_law_pool_here", "_law_depth", "_law_lengths"] fTree dTree)
    (DPlain : Df K mg "_law_plain" sPlain ["_law_tree", "_law_sounds"] fPlain dPlain)
    (DMade : Df K mg "_law_made" sMade ["_law_tree"] fMade dMade)
    (DLN : Df K mg "_law_names" sLNames ["_law_pieces"] fLN dLN)
    (FInit : FunD K "__init__" "Clip.__init__" (defArgs sInit) (defBody sInit) (defScope sInit) dvs kws fInit dInit) (BInit : Binds K dInit ["self", "pieces"] []) (MI : Mk K C fInit)
    (FPart : Fun K "part" "Clip.part" sPart fPart dPart) (SPart : CStat K C mc "part" pPart fPart) (BPart : Binds K dPart ["name", "start", "end"] [])
    (FSil : Fun K "silence" "Clip.silence" sSil fSil dSil) (SSil : CStat K C mc "silence" pSil fSil) (BSil : Binds K dSil ["count"] [])
    (FSams : Fun K "samples" "Clip.samples" sSams fSams dSams) (SSams : CStat K C mc "samples" pSams fSams) (BSams : Binds K dSams ["sound"] [])
    (FLen : Fun K "length" "Clip.length" sLen fLen dLen) (PLen : PropOf K C "length" pLen fLen) (BLen : Binds K dLen ["self"] [])
    (FNms : Fun K "names" "Clip.names" sNms fNms dNms) (MNms : Md K C "names" fNms dNms ["self"])
    (FPcs : Fun K "pieces" "Clip.pieces" sPcs fPcs dPcs) (MPcs : Md K C "pieces" fPcs dPcs ["self"])
    (FReq : Fun K "require_stretch" "Clip.require_stretch" sReq fReq dReq) (MReq : Md K C "require_stretch" fReq dReq ["self", "start", "end"])
    (FCut : Fun K "cut" "Clip.cut" sCut fCut dCut) (MCut : Md K C "cut" fCut dCut ["self", "start", "end"])
    (FGnd : Fun K "gained" "Clip.gained" sGnd fGnd dGnd) (MGnd : Md K C "gained" fGnd dGnd ["self", "top", "bottom"])
    (FSmp : Fun K "sample" "Clip.sample" sSmp fSmp dSmp) (MSmp : Md K C "sample" fSmp dSmp ["self", "place", "sounds"])
    (FAdd : Fun K "__add__" "Clip.__add__" sAdd fAdd dAdd) (BAdd : Binds K dAdd ["self", "other"] []) (OAdd : OpOf K C "__add__" fAdd)
    (FMul : Fun K "__mul__" "Clip.__mul__" sMul fMul dMul) (BMul : Binds K dMul ["self", "other"] []) (OMul : OpOf K C "__mul__" fMul)
    (FEq : Fun K "__eq__" "Clip.__eq__" sEq fEq dEq) (BEq : Binds K dEq ["self", "other"] [])
    (m1 : PySem.W.findIn K (.ref C) "__rmul__" = some none) (m2 : PySem.W.findIn K (.type "int") "__mul__" = some fo) (m3 : PySem.W.findIn K (.type "int") "__rmul__" = some ro) (m4 : PySem.W.subIn K (.type "int") (.ref C) = some false)
    (h1 : PySem.W.findIn K (.ref C) "__eq__" = some (some (.ref fEq))) (h2 : PySem.W.isFn K (.ref fEq) = true) (h3 : PySem.W.notFirst K C (.type "list") = true) :
    FnOk P w K mg base CX0 60 f fd ["_law_script"] (spLaw K) := by
  have M : MkC P w K mg base C fInit dInit := ⟨MI, ok_init FInit T B cs DTlen (tlen_all DPlen DTlen B 10) DPcnt (pcnt_all DPcnt B 10), BInit⟩
  have GInt := ok_isInt (P := P) (w := w) (base := base) DIsInt.fn B
  have GBetw := ok_betw DBetw.fn DIsInt GInt
  have GReqS := ok_reqS DReqS.fn B DIsRow (ok_isRow (P := P) (w := w) (base := base) DIsRow.fn B) DIsInt GInt
  have GPart := ok_part FPart T M DIsName (ok_isName DIsName.fn B cs) DIsInt GInt
  have GSil := ok_sil FSil T M cs DBetw GBetw
  have GSams := ok_sams FSams T M B DReqS GReqS
  have GLen := ok_len (P := P) (w := w) (base := base) FLen T
  have GNms := ok_nms FNms T B DNames (names_all2 (P := P) (w := w) (base := base) DNames 10)
  have GPcs := ok_pcs (P := P) (w := w) (base := base) FPcs T B
  have GReq := ok_req FReq T DBetw GBetw
  have GCut := ok_cut FCut T M MReq GReq DCutPs (cutps_all DPlen DTlen DMerged DBoth DRepd DCutR DCutP DCutPs B 10)
  have GGnd := ok_gnd FGnd T M cs DBetw GBetw DGain (gainpcs_all DGain B 10)
  have GSmp := ok_smp FSmp T DBetw GBetw MNms GNms DSam (samp_all DPlen DTlen DGs DSam B 10)
  have GAdd := ok_add FAdd T M DBoth (both_all DMerged DBoth)
  have GMul := ok_mul FMul T M cs DBetw GBetw DRepd (ok_repd DRepd.fn B.len)
  have GEq := ok_eq (P := P) (w := w) (base := base) FEq T B X
  exact ok_law F T B DPool (ok_pool DPool.fn B) DTake (ok_take DTake.fn B) DTree (tree_all DTake DTree B 5) DPlain (plain_all DPlain B 5)
    DMade (made_all T B RC DMade SSil BSil GSil SSams BSams GSams SPart BPart GPart OAdd BAdd GAdd OMul BMul GMul m1 m2 m3 m4 MGnd GGnd MCut GCut PLen BLen GLen 5) DLN (ok_lnL DLN.fn DLN (lnt_all DLN 9)) PLen BLen GLen MNms GNms MPcs GPcs MSmp GSmp h1 h2 h3 BEq GEq
end
end K46
/-! part W17 -/
set_option Elab.async false
set_option linter.all false
set_option maxRecDepth 100000
set_option maxHeartbeats 2000000
namespace K46
open PySem PySem.Spec PyProof.Rows L2 K46R
theorem all_mk {l : PySem.W.OpenLaw} {w : World} {K : PySem.W.Frag} {h : Heap} {mg : Str → Option Value} {fa C fIsInt fBetw fIsRow fReqS fIsName fPlen fTlen fPcnt fMerged fBoth fRepd fCutR fCutP fCutPs fGain fGs fNames fSam fPool fTake fTree fPlain fMade fLN fLaw pPart fPart pSil fSil pSams fSams pLen fLen fNms fPcs fReq fCut fGnd fSmp fAdd fMul fEq TI EI fInit : Addr} (X : K.In h) (G : h.Ns mainGlobals mg) (hfa : mg "law" = some (.ref fa))
    {odIsInt anIsInt odBetw anBetw odIsRow anIsRow odReqS anReqS odIsName anIsName odPlen anPlen odTlen anTlen odPcnt anPcnt odMerged anMerged odBoth anBoth odRepd anRepd odCutR anCutR odCutP anCutP odCutPs anCutPs odGain anGain odGs anGs odNames anNames odSam anSam odPool anPool odTake anTake odTree anTree odPlain anPlain odMade anMade odLN anLN odLaw anLaw odPart anPart odSil anSil odSams anSams odLen anLen odNms anNms odPcs anPcs odReq anReq odCut anCut odGnd anGnd odSmp anSmp odAdd anAdd odMul anMul odEq anEq odInit anInit : Option Addr} {slIsInt slBetw slIsRow slReqS slIsName slPlen slTlen slPcnt slMerged slBoth slRepd slCutR slCutP slCutPs slGain slGs slNames slSam slPool slTake slTree slPlain slMade slLN slLaw slPart slSil slSams slLen slNms slPcs slReq slCut slGnd slSmp slAdd slMul slEq slInit : Array (Option Value)} {ocIsInt kVIsInt dcIsInt pmIsInt cdIsInt ctIsInt ocBetw kVBetw dcBetw pmBetw cdBetw ctBetw ocIsRow kVIsRow dcIsRow pmIsRow cdIsRow ctIsRow ocReqS kVReqS dcReqS pmReqS cdReqS ctReqS ocIsName kVIsName dcIsName pmIsName cdIsName ctIsName ocPlen kVPlen dcPlen pmPlen cdPlen ctPlen ocTlen kVTlen dcTlen pmTlen cdTlen ctTlen ocPcnt kVPcnt dcPcnt pmPcnt cdPcnt ctPcnt ocMerged kVMerged dcMerged pmMerged cdMerged ctMerged ocBoth kVBoth dcBoth pmBoth cdBoth ctBoth ocRepd kVRepd dcRepd pmRepd cdRepd ctRepd ocCutR kVCutR dcCutR pmCutR cdCutR ctCutR ocCutP kVCutP dcCutP pmCutP cdCutP ctCutP ocCutPs kVCutPs dcCutPs pmCutPs cdCutPs ctCutPs ocGain kVGain dcGain pmGain cdGain ctGain ocGs kVGs dcGs pmGs cdGs ctGs ocNames kVNames dcNames pmNames cdNames ctNames ocSam kVSam dcSam pmSam cdSam ctSam ocPool kVPool dcPool pmPool cdPool ctPool ocTake kVTake dcTake pmTake cdTake ctTake ocTree kVTree dcTree pmTree cdTree ctTree ocPlain kVPlain dcPlain pmPlain cdPlain ctPlain ocMade kVMade dcMade pmMade cdMade ctMade ocLN kVLN dcLN pmLN cdLN ctLN ocLaw kVLaw dcLaw pmLaw cdLaw ctLaw ocPart kVPart dcPart pmPart cdPart ctPart ocSil kVSil dcSil pmSil cdSil ctSil ocSams kVSams dcSams pmSams cdSams ctSams ocLen kVLen dcLen pmLen cdLen ctLen ocNms kVNms dcNms pmNms cdNms ctNms ocPcs kVPcs dcPcs pmPcs cdPcs ctPcs ocReq kVReq dcReq pmReq cdReq ctReq ocCut kVCut dcCut pmCut cdCut ctCut ocGnd kVGnd dcGnd pmGnd cdGnd ctGnd ocSmp kVSmp dcSmp pmSmp cdSmp ctSmp ocAdd kVAdd dcAdd pmAdd cdAdd ctAdd ocMul kVMul dcMul pmMul cdMul ctMul ocEq kVEq dcEq pmEq cdEq ctEq ocInit kVInit dcInit pmInit cdInit ctInit : Value} {rsPart : List Value} {rsSil : List Value} {rsSams : List Value} {rsLen : List Value} {nT : Nat} {ocT : Value} {odT : Option Addr} {slT : Array (Option Value)} {fo ro : Option Value} {tok1 tok2 tok3 tok4 tok5 tok6 : Tok}
    (aIsInt : PySem.W.nsIn K mainGlobals "is_integer" = some (some (.ref fIsInt)))
    (lIsInt : K.lookup fIsInt = some ⟨ocIsInt, odIsInt, .func (PySem.W.fnOf "is_integer" "is_integer" (defArgs sIsInt) (defBody sIsInt) (defScope sIsInt) .none kVIsInt dcIsInt pmIsInt anIsInt cdIsInt ctIsInt), slIsInt⟩)
    (cIsInt : PySem.W.codeIn K cdIsInt "is_integer" = true)
    (kIsInt : PySem.W.keepIn K (.ref fIsInt) = true)
    (aBetw : PySem.W.nsIn K mainGlobals "is_between" = some (some (.ref fBetw)))
    (lBetw : K.lookup fBetw = some ⟨ocBetw, odBetw, .func (PySem.W.fnOf "is_between" "is_between" (defArgs sBetw) (defBody sBetw) (defScope sBetw) .none kVBetw dcBetw pmBetw anBetw cdBetw ctBetw), slBetw⟩)
    (cBetw : PySem.W.codeIn K cdBetw "is_between" = true)
    (kBetw : PySem.W.keepIn K (.ref fBetw) = true)
    (aIsRow : PySem.W.nsIn K mainGlobals "is_row" = some (some (.ref fIsRow)))
    (lIsRow : K.lookup fIsRow = some ⟨ocIsRow, odIsRow, .func (PySem.W.fnOf "is_row" "is_row" (defArgs sIsRow) (defBody sIsRow) (defScope sIsRow) .none kVIsRow dcIsRow pmIsRow anIsRow cdIsRow ctIsRow), slIsRow⟩)
    (cIsRow : PySem.W.codeIn K cdIsRow "is_row" = true)
    (kIsRow : PySem.W.keepIn K (.ref fIsRow) = true)
    (aReqS : PySem.W.nsIn K mainGlobals "require_sound" = some (some (.ref fReqS)))
    (lReqS : K.lookup fReqS = some ⟨ocReqS, odReqS, .func (PySem.W.fnOf "require_sound" "require_sound" (defArgs sReqS) (defBody sReqS) (defScope sReqS) .none kVReqS dcReqS pmReqS anReqS cdReqS ctReqS), slReqS⟩)
    (cReqS : PySem.W.codeIn K cdReqS "require_sound" = true)
    (kReqS : PySem.W.keepIn K (.ref fReqS) = true)
    (aIsName : PySem.W.nsIn K mainGlobals "is_name" = some (some (.ref fIsName)))
    (lIsName : K.lookup fIsName = some ⟨ocIsName, odIsName, .func (PySem.W.fnOf "is_name" "is_name" (defArgs sIsName) (defBody sIsName) (defScope sIsName) .none kVIsName dcIsName pmIsName anIsName cdIsName ctIsName), slIsName⟩)
    (cIsName : PySem.W.codeIn K cdIsName "is_name" = true)
    (kIsName : PySem.W.keepIn K (.ref fIsName) = true)
    (aPlen : PySem.W.nsIn K mainGlobals "piece_length" = some (some (.ref fPlen)))
    (lPlen : K.lookup fPlen = some ⟨ocPlen, odPlen, .func (PySem.W.fnOf "piece_length" "piece_length" (defArgs sPlen) (defBody sPlen) (defScope sPlen) .none kVPlen dcPlen pmPlen anPlen cdPlen ctPlen), slPlen⟩)
    (cPlen : PySem.W.codeIn K cdPlen "piece_length" = true)
    (kPlen : PySem.W.keepIn K (.ref fPlen) = true)
    (aTlen : PySem.W.nsIn K mainGlobals "total_length" = some (some (.ref fTlen)))
    (lTlen : K.lookup fTlen = some ⟨ocTlen, odTlen, .func (PySem.W.fnOf "total_length" "total_length" (defArgs sTlen) (defBody sTlen) (defScope sTlen) .none kVTlen dcTlen pmTlen anTlen cdTlen ctTlen), slTlen⟩)
    (cTlen : PySem.W.codeIn K cdTlen "total_length" = true)
    (kTlen : PySem.W.keepIn K (.ref fTlen) = true)
    (aPcnt : PySem.W.nsIn K mainGlobals "piece_count" = some (some (.ref fPcnt)))
    (lPcnt : K.lookup fPcnt = some ⟨ocPcnt, odPcnt, .func (PySem.W.fnOf "piece_count" "piece_count" (defArgs sPcnt) (defBody sPcnt) (defScope sPcnt) .none kVPcnt dcPcnt pmPcnt anPcnt cdPcnt ctPcnt), slPcnt⟩)
    (cPcnt : PySem.W.codeIn K cdPcnt "piece_count" = true)
    (kPcnt : PySem.W.keepIn K (.ref fPcnt) = true)
    (aMerged : PySem.W.nsIn K mainGlobals "merged" = some (some (.ref fMerged)))
    (lMerged : K.lookup fMerged = some ⟨ocMerged, odMerged, .func (PySem.W.fnOf "merged" "merged" (defArgs sMerged) (defBody sMerged) (defScope sMerged) .none kVMerged dcMerged pmMerged anMerged cdMerged ctMerged), slMerged⟩)
    (cMerged : PySem.W.codeIn K cdMerged "merged" = true)
    (kMerged : PySem.W.keepIn K (.ref fMerged) = true)
    (aBoth : PySem.W.nsIn K mainGlobals "both_pieces" = some (some (.ref fBoth)))
    (lBoth : K.lookup fBoth = some ⟨ocBoth, odBoth, .func (PySem.W.fnOf "both_pieces" "both_pieces" (defArgs sBoth) (defBody sBoth) (defScope sBoth) .none kVBoth dcBoth pmBoth anBoth cdBoth ctBoth), slBoth⟩)
    (cBoth : PySem.W.codeIn K cdBoth "both_pieces" = true)
    (kBoth : PySem.W.keepIn K (.ref fBoth) = true)
    (aRepd : PySem.W.nsIn K mainGlobals "repeated_pieces" = some (some (.ref fRepd)))
    (lRepd : K.lookup fRepd = some ⟨ocRepd, odRepd, .func (PySem.W.fnOf "repeated_pieces" "repeated_pieces" (defArgs sRepd) (defBody sRepd) (defScope sRepd) .none kVRepd dcRepd pmRepd anRepd cdRepd ctRepd), slRepd⟩)
    (cRepd : PySem.W.codeIn K cdRepd "repeated_pieces" = true)
    (kRepd : PySem.W.keepIn K (.ref fRepd) = true)
    (aCutR : PySem.W.nsIn K mainGlobals "cut_repeat" = some (some (.ref fCutR)))
    (lCutR : K.lookup fCutR = some ⟨ocCutR, odCutR, .func (PySem.W.fnOf "cut_repeat" "cut_repeat" (defArgs sCutR) (defBody sCutR) (defScope sCutR) .none kVCutR dcCutR pmCutR anCutR cdCutR ctCutR), slCutR⟩)
    (cCutR : PySem.W.codeIn K cdCutR "cut_repeat" = true)
    (kCutR : PySem.W.keepIn K (.ref fCutR) = true)
    (aCutP : PySem.W.nsIn K mainGlobals "cut_piece" = some (some (.ref fCutP)))
    (lCutP : K.lookup fCutP = some ⟨ocCutP, odCutP, .func (PySem.W.fnOf "cut_piece" "cut_piece" (defArgs sCutP) (defBody sCutP) (defScope sCutP) .none kVCutP dcCutP pmCutP anCutP cdCutP ctCutP), slCutP⟩)
    (cCutP : PySem.W.codeIn K cdCutP "cut_piece" = true)
    (kCutP : PySem.W.keepIn K (.ref fCutP) = true)
    (aCutPs : PySem.W.nsIn K mainGlobals "cut_pieces" = some (some (.ref fCutPs)))
    (lCutPs : K.lookup fCutPs = some ⟨ocCutPs, odCutPs, .func (PySem.W.fnOf "cut_pieces" "cut_pieces" (defArgs sCutPs) (defBody sCutPs) (defScope sCutPs) .none kVCutPs dcCutPs pmCutPs anCutPs cdCutPs ctCutPs), slCutPs⟩)
    (cCutPs : PySem.W.codeIn K cdCutPs "cut_pieces" = true)
    (kCutPs : PySem.W.keepIn K (.ref fCutPs) = true)
    (aGain : PySem.W.nsIn K mainGlobals "gained_pieces" = some (some (.ref fGain)))
    (lGain : K.lookup fGain = some ⟨ocGain, odGain, .func (PySem.W.fnOf "gained_pieces" "gained_pieces" (defArgs sGain) (defBody sGain) (defScope sGain) .none kVGain dcGain pmGain anGain cdGain ctGain), slGain⟩)
    (cGain : PySem.W.codeIn K cdGain "gained_pieces" = true)
    (kGain : PySem.W.keepIn K (.ref fGain) = true)
    (aGs : PySem.W.nsIn K mainGlobals "gained_sample" = some (some (.ref fGs)))
    (lGs : K.lookup fGs = some ⟨ocGs, odGs, .func (PySem.W.fnOf "gained_sample" "gained_sample" (defArgs sGs) (defBody sGs) (defScope sGs) .none kVGs dcGs pmGs anGs cdGs ctGs), slGs⟩)
    (cGs : PySem.W.codeIn K cdGs "gained_sample" = true)
    (kGs : PySem.W.keepIn K (.ref fGs) = true)
    (aNames : PySem.W.nsIn K mainGlobals "names_in" = some (some (.ref fNames)))
    (lNames : K.lookup fNames = some ⟨ocNames, odNames, .func (PySem.W.fnOf "names_in" "names_in" (defArgs sNames) (defBody sNames) (defScope sNames) .none kVNames dcNames pmNames anNames cdNames ctNames), slNames⟩)
    (cNames : PySem.W.codeIn K cdNames "names_in" = true)
    (kNames : PySem.W.keepIn K (.ref fNames) = true)
    (aSam : PySem.W.nsIn K mainGlobals "sample_of" = some (some (.ref fSam)))
    (lSam : K.lookup fSam = some ⟨ocSam, odSam, .func (PySem.W.fnOf "sample_of" "sample_of" (defArgs sSam) (defBody sSam) (defScope sSam) .none kVSam dcSam pmSam anSam cdSam ctSam), slSam⟩)
    (cSam : PySem.W.codeIn K cdSam "sample_of" = true)
    (kSam : PySem.W.keepIn K (.ref fSam) = true)
    (aPool : PySem.W.nsIn K mainGlobals "_law_pool" = some (some (.ref fPool)))
    (lPool : K.lookup fPool = some ⟨ocPool, odPool, .func (PySem.W.fnOf "_law_pool" "_law_pool" (defArgs sPool) (defBody sPool) (defScope sPool) .none kVPool dcPool pmPool anPool cdPool ctPool), slPool⟩)
    (cPool : PySem.W.codeIn K cdPool "_law_pool" = true)
    (kPool : PySem.W.keepIn K (.ref fPool) = true)
    (aTake : PySem.W.nsIn K mainGlobals "_law_take" = some (some (.ref fTake)))
    (lTake : K.lookup fTake = some ⟨ocTake, odTake, .func (PySem.W.fnOf "_law_take" "_law_take" (defArgs sTake) (defBody sTake) (defScope sTake) .none kVTake dcTake pmTake anTake cdTake ctTake), slTake⟩)
    (cTake : PySem.W.codeIn K cdTake "_law_take" = true)
    (kTake : PySem.W.keepIn K (.ref fTake) = true)
    (aTree : PySem.W.nsIn K mainGlobals "_law_clip" = some (some (.ref fTree)))
    (lTree : K.lookup fTree = some ⟨ocTree, odTree, .func (PySem.W.fnOf "_law_clip" "_law_clip" (defArgs sTree) (defBody sTree) (defScope sTree) .none kVTree dcTree pmTree anTree cdTree ctTree), slTree⟩)
    (cTree : PySem.W.codeIn K cdTree "_law_clip" = true)
    (kTree : PySem.W.keepIn K (.ref fTree) = true)
    (aPlain : PySem.W.nsIn K mainGlobals "_law_plain" = some (some (.ref fPlain)))
    (lPlain : K.lookup fPlain = some ⟨ocPlain, odPlain, .func (PySem.W.fnOf "_law_plain" "_law_plain" (defArgs sPlain) (defBody sPlain) (defScope sPlain) .none kVPlain dcPlain pmPlain anPlain cdPlain ctPlain), slPlain⟩)
    (cPlain : PySem.W.codeIn K cdPlain "_law_plain" = true)
    (kPlain : PySem.W.keepIn K (.ref fPlain) = true)
    (aMade : PySem.W.nsIn K mainGlobals "_law_made" = some (some (.ref fMade)))
    (lMade : K.lookup fMade = some ⟨ocMade, odMade, .func (PySem.W.fnOf "_law_made" "_law_made" (defArgs sMade) (defBody sMade) (defScope sMade) .none kVMade dcMade pmMade anMade cdMade ctMade), slMade⟩)
    (cMade : PySem.W.codeIn K cdMade "_law_made" = true)
    (kMade : PySem.W.keepIn K (.ref fMade) = true)
    (aLN : PySem.W.nsIn K mainGlobals "_law_names" = some (some (.ref fLN)))
    (lLN : K.lookup fLN = some ⟨ocLN, odLN, .func (PySem.W.fnOf "_law_names" "_law_names" (defArgs sLNames) (defBody sLNames) (defScope sLNames) .none kVLN dcLN pmLN anLN cdLN ctLN), slLN⟩)
    (cLN : PySem.W.codeIn K cdLN "_law_names" = true)
    (kLN : PySem.W.keepIn K (.ref fLN) = true)
    (aLaw : PySem.W.nsIn K mainGlobals "law" = some (some (.ref fLaw)))
    (lLaw : K.lookup fLaw = some ⟨ocLaw, odLaw, .func (PySem.W.fnOf "law" "law" (defArgs sLaw) (defBody sLaw) (defScope sLaw) .none kVLaw dcLaw pmLaw anLaw cdLaw ctLaw), slLaw⟩)
    (cLaw : PySem.W.codeIn K cdLaw "law" = true)
    (kLaw : PySem.W.keepIn K (.ref fLaw) = true)
    (aC : PySem.W.nsIn K mainGlobals "Clip" = some (some (.ref C)))
    (qPart : PySem.W.findCls K (.ref C) (.type "type") "part" = some (.get (.builtin "staticmethod.__get__") (.ref pPart) .none (.ref C)))
    (rPart : PySem.W.recIn K pPart "staticmethod" = some (.ref fPart :: rsPart))
    (lPart : K.lookup fPart = some ⟨ocPart, odPart, .func (PySem.W.fnOf "part" "Clip.part" (defArgs sPart) (defBody sPart) (defScope sPart) .none kVPart dcPart pmPart anPart cdPart ctPart), slPart⟩)
    (cPart : PySem.W.codeIn K cdPart "Clip.part" = true)
    (kPart : PySem.W.keepIn K (.ref fPart) = true)
    (qSil : PySem.W.findCls K (.ref C) (.type "type") "silence" = some (.get (.builtin "staticmethod.__get__") (.ref pSil) .none (.ref C)))
    (rSil : PySem.W.recIn K pSil "staticmethod" = some (.ref fSil :: rsSil))
    (lSil : K.lookup fSil = some ⟨ocSil, odSil, .func (PySem.W.fnOf "silence" "Clip.silence" (defArgs sSil) (defBody sSil) (defScope sSil) .none kVSil dcSil pmSil anSil cdSil ctSil), slSil⟩)
    (cSil : PySem.W.codeIn K cdSil "Clip.silence" = true)
    (kSil : PySem.W.keepIn K (.ref fSil) = true)
    (qSams : PySem.W.findCls K (.ref C) (.type "type") "samples" = some (.get (.builtin "staticmethod.__get__") (.ref pSams) .none (.ref C)))
    (rSams : PySem.W.recIn K pSams "staticmethod" = some (.ref fSams :: rsSams))
    (lSams : K.lookup fSams = some ⟨ocSams, odSams, .func (PySem.W.fnOf "samples" "Clip.samples" (defArgs sSams) (defBody sSams) (defScope sSams) .none kVSams dcSams pmSams anSams cdSams ctSams), slSams⟩)
    (cSams : PySem.W.codeIn K cdSams "Clip.samples" = true)
    (kSams : PySem.W.keepIn K (.ref fSams) = true)
    (aLen : PySem.W.findIn K (.ref C) "length" = some (some (.ref pLen)))
    (gLen : PySem.W.specialIn K (.ref pLen) "__get__" = some (some (.builtin "property.__get__")))
    (tLen : PySem.W.takesIn K (.ref pLen) = some true)
    (rLen : PySem.W.recIn K pLen "property" = some (.ref fLen :: rsLen))
    (lLen : K.lookup fLen = some ⟨ocLen, odLen, .func (PySem.W.fnOf "length" "Clip.length" (defArgs sLen) (defBody sLen) (defScope sLen) .none kVLen dcLen pmLen anLen cdLen ctLen), slLen⟩)
    (cLen : PySem.W.codeIn K cdLen "Clip.length" = true)
    (kLen : PySem.W.keepIn K (.ref fLen) = true)
    (aNms : PySem.W.findIn K (.ref C) "names" = some (some (.ref fNms)))
    (iNms : PySem.W.isFn K (.ref fNms) = true)
    (lNms : K.lookup fNms = some ⟨ocNms, odNms, .func (PySem.W.fnOf "names" "Clip.names" (defArgs sNms) (defBody sNms) (defScope sNms) .none kVNms dcNms pmNms anNms cdNms ctNms), slNms⟩)
    (cNms : PySem.W.codeIn K cdNms "Clip.names" = true)
    (kNms : PySem.W.keepIn K (.ref fNms) = true)
    (aPcs : PySem.W.findIn K (.ref C) "pieces" = some (some (.ref fPcs)))
    (iPcs : PySem.W.isFn K (.ref fPcs) = true)
    (lPcs : K.lookup fPcs = some ⟨ocPcs, odPcs, .func (PySem.W.fnOf "pieces" "Clip.pieces" (defArgs sPcs) (defBody sPcs) (defScope sPcs) .none kVPcs dcPcs pmPcs anPcs cdPcs ctPcs), slPcs⟩)
    (cPcs : PySem.W.codeIn K cdPcs "Clip.pieces" = true)
    (kPcs : PySem.W.keepIn K (.ref fPcs) = true)
    (aReq : PySem.W.findIn K (.ref C) "require_stretch" = some (some (.ref fReq)))
    (iReq : PySem.W.isFn K (.ref fReq) = true)
    (lReq : K.lookup fReq = some ⟨ocReq, odReq, .func (PySem.W.fnOf "require_stretch" "Clip.require_stretch" (defArgs sReq) (defBody sReq) (defScope sReq) .none kVReq dcReq pmReq anReq cdReq ctReq), slReq⟩)
    (cReq : PySem.W.codeIn K cdReq "Clip.require_stretch" = true)
    (kReq : PySem.W.keepIn K (.ref fReq) = true)
    (aCut : PySem.W.findIn K (.ref C) "cut" = some (some (.ref fCut)))
    (iCut : PySem.W.isFn K (.ref fCut) = true)
    (lCut : K.lookup fCut = some ⟨ocCut, odCut, .func (PySem.W.fnOf "cut" "Clip.cut" (defArgs sCut) (defBody sCut) (defScope sCut) .none kVCut dcCut pmCut anCut cdCut ctCut), slCut⟩)
    (cCut : PySem.W.codeIn K cdCut "Clip.cut" = true)
    (kCut : PySem.W.keepIn K (.ref fCut) = true)
    (aGnd : PySem.W.findIn K (.ref C) "gained" = some (some (.ref fGnd)))
    (iGnd : PySem.W.isFn K (.ref fGnd) = true)
    (lGnd : K.lookup fGnd = some ⟨ocGnd, odGnd, .func (PySem.W.fnOf "gained" "Clip.gained" (defArgs sGnd) (defBody sGnd) (defScope sGnd) .none kVGnd dcGnd pmGnd anGnd cdGnd ctGnd), slGnd⟩)
    (cGnd : PySem.W.codeIn K cdGnd "Clip.gained" = true)
    (kGnd : PySem.W.keepIn K (.ref fGnd) = true)
    (aSmp : PySem.W.findIn K (.ref C) "sample" = some (some (.ref fSmp)))
    (iSmp : PySem.W.isFn K (.ref fSmp) = true)
    (lSmp : K.lookup fSmp = some ⟨ocSmp, odSmp, .func (PySem.W.fnOf "sample" "Clip.sample" (defArgs sSmp) (defBody sSmp) (defScope sSmp) .none kVSmp dcSmp pmSmp anSmp cdSmp ctSmp), slSmp⟩)
    (cSmp : PySem.W.codeIn K cdSmp "Clip.sample" = true)
    (kSmp : PySem.W.keepIn K (.ref fSmp) = true)
    (aAdd : PySem.W.findIn K (.ref C) "__add__" = some (some (.ref fAdd)))
    (iAdd : PySem.W.isFn K (.ref fAdd) = true)
    (lAdd : K.lookup fAdd = some ⟨ocAdd, odAdd, .func (PySem.W.fnOf "__add__" "Clip.__add__" (defArgs sAdd) (defBody sAdd) (defScope sAdd) .none kVAdd dcAdd pmAdd anAdd cdAdd ctAdd), slAdd⟩)
    (cAdd : PySem.W.codeIn K cdAdd "Clip.__add__" = true)
    (kAdd : PySem.W.keepIn K (.ref fAdd) = true)
    (aMul : PySem.W.findIn K (.ref C) "__mul__" = some (some (.ref fMul)))
    (iMul : PySem.W.isFn K (.ref fMul) = true)
    (lMul : K.lookup fMul = some ⟨ocMul, odMul, .func (PySem.W.fnOf "__mul__" "Clip.__mul__" (defArgs sMul) (defBody sMul) (defScope sMul) .none kVMul dcMul pmMul anMul cdMul ctMul), slMul⟩)
    (cMul : PySem.W.codeIn K cdMul "Clip.__mul__" = true)
    (kMul : PySem.W.keepIn K (.ref fMul) = true)
    (aEq : PySem.W.findIn K (.ref C) "__eq__" = some (some (.ref fEq)))
    (iEq : PySem.W.isFn K (.ref fEq) = true)
    (lEq : K.lookup fEq = some ⟨ocEq, odEq, .func (PySem.W.fnOf "__eq__" "Clip.__eq__" (defArgs sEq) (defBody sEq) (defScope sEq) .none kVEq dcEq pmEq anEq cdEq ctEq), slEq⟩)
    (cEq : PySem.W.codeIn K cdEq "Clip.__eq__" = true)
    (kEq : PySem.W.keepIn K (.ref fEq) = true)
    (aInit : PySem.W.findIn K (.ref C) "__init__" = some (some (.ref fInit)))
    (iInit : PySem.W.isFn K (.ref fInit) = true)
    (lInit : K.lookup fInit = some ⟨ocInit, odInit, .func (PySem.W.fnOf "__init__" "Clip.__init__" (defArgs sInit) (defBody sInit) (defScope sInit) (.ref TI) kVInit dcInit pmInit anInit cdInit ctInit), slInit⟩)
    (cInit : PySem.W.codeIn K cdInit "Clip.__init__" = true)
    (kInit : PySem.W.keepIn K (.ref fInit) = true)
    (lTI : K.lookup TI = some ⟨ocT, odT, .seq #[.ref EI] nT, slT⟩)
    (pg : PySem.W.plainGet K C Str.empty = true)
    (hd : PySem.W.hasDictIn K C = true)
    (po : PySem.W.plainOver K C = true)
    (sa : PySem.W.findIn K (.ref C) "__setattr__" = some (some (.builtin "object.__setattr__")))
    (mk : PySem.W.makesIn K C = true)
    (kc : PySem.W.keepIn K (.ref C) = true)
    (nP : PySem.W.findIn K (.ref C) "own_pieces" = some none)
    (nL : PySem.W.findIn K (.ref C) "own_length" = some none)
    (rd : PySem.W.readsIn K C (.type "type") = true)
    (ga : PySem.W.specialIn K (.ref C) "__getattribute__" = some (some (.builtin "type.__getattribute__")))
    (sf : PySem.W.selfFirst K C = true)
    (eha : PySem.W.findIn K (.ref C) "__class__" = some (some (.builtin "object.__class__")))
    (ehn : PySem.W.specialIn K (.builtin "object.__class__") "__get__" = some (some (.builtin "getset_descriptor.__get__")))
    (etk : PySem.W.takesIn K (.builtin "object.__class__") = some true)
    (ehm : PySem.W.mroIn K C (.type "object") = some true)
    (ei1 : PySem.W.isClsIn K C = true)
    (ei2 : PySem.W.typeIn K (.ref C) = some (.type "type"))
    (ei3 : PySem.W.subIn K (.type "list") (.ref C) = some false)
    (m1 : PySem.W.findIn K (.ref C) "__rmul__" = some none)
    (m2 : PySem.W.findIn K (.type "int") "__mul__" = some fo)
    (m3 : PySem.W.findIn K (.type "int") "__rmul__" = some ro)
    (m4 : PySem.W.subIn K (.type "int") (.ref C) = some false)
    (nf : PySem.W.notFirst K C (.type "list") = true)
    (vname : PySem.W.nsIn K mainGlobals "MAX_NAME" = some (some (.int 8 tok1)))
    (vlet_ : PySem.W.nsIn K mainGlobals "LETTERS" = some (some (.str LET tok2)))
    (vgain : PySem.W.nsIn K mainGlobals "MAX_GAIN" = some (some (.int 1000 tok3)))
    (vpcs : PySem.W.nsIn K mainGlobals "MAX_PIECES" = some (some (.int 200 tok4)))
    (vcnt : PySem.W.nsIn K mainGlobals "MAX_COUNT" = some (some (.int 1000000000000000000000000000000 tok5)))
    (vlng : PySem.W.nsIn K mainGlobals "MAX_LENGTH" = some (some (.int 10000000000000000000000000000000000000000 tok6)))
    (z0 : PySem.W.nsIn K mainGlobals "isinstance" = some none)
    (z1 : PySem.W.nsIn K mainGlobals "int" = some none)
    (z2 : PySem.W.nsIn K mainGlobals "bool" = some none)
    (z3 : PySem.W.nsIn K mainGlobals "list" = some none)
    (z4 : PySem.W.nsIn K mainGlobals "tuple" = some none)
    (z5 : PySem.W.nsIn K mainGlobals "str" = some none)
    (z6 : PySem.W.nsIn K mainGlobals "len" = some none)
    (z7 : PySem.W.nsIn K mainGlobals "all" = some none)
    (z8 : PySem.W.nsIn K mainGlobals "sum" = some none)
    (z9 : PySem.W.nsIn K mainGlobals "max" = some none)
    (z10 : PySem.W.nsIn K mainGlobals "min" = some none)
    (z11 : PySem.W.nsIn K mainGlobals "sorted" = some none)
    (z12 : PySem.W.nsIn K mainGlobals "range" = some none)
    (z13 : PySem.W.nsIn K mainGlobals "enumerate" = some none)
    :
    ∃ fd : FuncData, (∀ (s : Shared) (v : Value), BindsTo s fd ⟨[v], []⟩ [("_law_script", v)]) ∧ ∀ base : Heap, K.In base → base.Ns mainGlobals mg → FnOk l.prog w K mg base CX0 60 fa fd ["_law_script"] (spLaw K) := by
  have e := hfa.symm.trans (PySem.W.mg_of X G aLaw)
  cases e
  have B : Bt mg := ⟨PySem.W.mg_none_of X G z0, PySem.W.mg_none_of X G z1, PySem.W.mg_none_of X G z2, PySem.W.mg_none_of X G z3, PySem.W.mg_none_of X G z4, PySem.W.mg_none_of X G z5, PySem.W.mg_none_of X G z6, PySem.W.mg_none_of X G z7, PySem.W.mg_none_of X G z8, PySem.W.mg_none_of X G z9, PySem.W.mg_none_of X G z10, PySem.W.mg_none_of X G z11, PySem.W.mg_none_of X G z12, PySem.W.mg_none_of X G z13⟩
  have p1 : (1000000000000000000000000000000 : Int) = 10 ^ 30 := by decide
  have p2 : (10000000000000000000000000000000000000000 : Int) = 10 ^ 40 := by decide
  rw [p1] at vcnt
  rw [p2] at vlng
  have cs : Cst mg := ⟨⟨_, PySem.W.mg_of X G vname⟩, ⟨_, PySem.W.mg_of X G vlet_⟩, ⟨_, PySem.W.mg_of X G vgain⟩, ⟨_, PySem.W.mg_of X G vpcs⟩, ⟨_, PySem.W.mg_of X G vcnt⟩, ⟨_, PySem.W.mg_of X G vlng⟩⟩
  have T : CT K mg C := ⟨⟨pg, hd, po, sa⟩, nP, nL, PySem.W.mg_of X G aC⟩
  have eli : PySem.W.kitOne K (.type "list") (.ref C) = some false := by
    have ei1' : (PySem.W.clsIn K C).isSome = true := ei1
    show (if ((Value.type "list" : Value) == .ref C) = true then some true else (if ((PySem.W.clsIn K C).isSome && PySem.W.typeIn K (.ref C) == some (.type "type")) = true then PySem.W.subIn K (.type "list") (.ref C) else none)) = some false
    rw [ei1', ei2, ei3]
    rfl
  have FLaw := fun_mk (st := sLaw) lLaw cLaw kLaw
  have FIsInt := fun_mk (st := sIsInt) lIsInt cIsInt kIsInt
  have DIsInt : Df K mg "is_integer" sIsInt ["value"] fIsInt _ := ⟨FIsInt, FIsInt.binds (ps := ["value"]) fun _ _ _ _ _ _ us hl => match us, hl with | [_], _ => rfl, PySem.W.mg_of X G aIsInt⟩
  have FBetw := fun_mk (st := sBetw) lBetw cBetw kBetw
  have DBetw : Df K mg "is_between" sBetw ["value", "least", "most"] fBetw _ := ⟨FBetw, FBetw.binds (ps := ["value", "least", "most"]) fun _ _ _ _ _ _ us hl => match us, hl with | [_, _, _], _ => rfl, PySem.W.mg_of X G aBetw⟩
  have FIsRow := fun_mk (st := sIsRow) lIsRow cIsRow kIsRow
  have DIsRow : Df K mg "is_row" sIsRow ["value"] fIsRow _ := ⟨FIsRow, FIsRow.binds (ps := ["value"]) fun _ _ _ _ _ _ us hl => match us, hl with | [_], _ => rfl, PySem.W.mg_of X G aIsRow⟩
  have FReqS := fun_mk (st := sReqS) lReqS cReqS kReqS
  have DReqS : Df K mg "require_sound" sReqS ["sound"] fReqS _ := ⟨FReqS, FReqS.binds (ps := ["sound"]) fun _ _ _ _ _ _ us hl => match us, hl with | [_], _ => rfl, PySem.W.mg_of X G aReqS⟩
  have FIsName := fun_mk (st := sIsName) lIsName cIsName kIsName
  have DIsName : Df K mg "is_name" sIsName ["value"] fIsName _ := ⟨FIsName, FIsName.binds (ps := ["value"]) fun _ _ _ _ _ _ us hl => match us, hl with | [_], _ => rfl, PySem.W.mg_of X G aIsName⟩
  have FPlen := fun_mk (st := sPlen) lPlen cPlen kPlen
  have DPlen : Df K mg "piece_length" sPlen ["piece"] fPlen _ := ⟨FPlen, FPlen.binds (ps := ["piece"]) fun _ _ _ _ _ _ us hl => match us, hl with | [_], _ => rfl, PySem.W.mg_of X G aPlen⟩
  have FTlen := fun_mk (st := sTlen) lTlen cTlen kTlen
  have DTlen : Df K mg "total_length" sTlen ["pieces"] fTlen _ := ⟨FTlen, FTlen.binds (ps := ["pieces"]) fun _ _ _ _ _ _ us hl => match us, hl with | [_], _ => rfl, PySem.W.mg_of X G aTlen⟩
  have FPcnt := fun_mk (st := sPcnt) lPcnt cPcnt kPcnt
  have DPcnt : Df K mg "piece_count" sPcnt ["pieces"] fPcnt _ := ⟨FPcnt, FPcnt.binds (ps := ["pieces"]) fun _ _ _ _ _ _ us hl => match us, hl with | [_], _ => rfl, PySem.W.mg_of X G aPcnt⟩
  have FMerged := fun_mk (st := sMerged) lMerged cMerged kMerged
  have DMerged : Df K mg "merged" sMerged ["first", "second"] fMerged _ := ⟨FMerged, FMerged.binds (ps := ["first", "second"]) fun _ _ _ _ _ _ us hl => match us, hl with | [_, _], _ => rfl, PySem.W.mg_of X G aMerged⟩
  have FBoth := fun_mk (st := sBoth) lBoth cBoth kBoth
  have DBoth : Df K mg "both_pieces" sBoth ["first", "second"] fBoth _ := ⟨FBoth, FBoth.binds (ps := ["first", "second"]) fun _ _ _ _ _ _ us hl => match us, hl with | [_, _], _ => rfl, PySem.W.mg_of X G aBoth⟩
  have FRepd := fun_mk (st := sRepd) lRepd cRepd kRepd
  have DRepd : Df K mg "repeated_pieces" sRepd ["pieces", "count"] fRepd _ := ⟨FRepd, FRepd.binds (ps := ["pieces", "count"]) fun _ _ _ _ _ _ us hl => match us, hl with | [_, _], _ => rfl, PySem.W.mg_of X G aRepd⟩
  have FCutR := fun_mk (st := sCutR) lCutR cCutR kCutR
  have DCutR : Df K mg "cut_repeat" sCutR ["piece", "start", "end"] fCutR _ := ⟨FCutR, FCutR.binds (ps := ["piece", "start", "end"]) fun _ _ _ _ _ _ us hl => match us, hl with | [_, _, _], _ => rfl, PySem.W.mg_of X G aCutR⟩
  have FCutP := fun_mk (st := sCutP) lCutP cCutP kCutP
  have DCutP : Df K mg "cut_piece" sCutP ["piece", "start", "end"] fCutP _ := ⟨FCutP, FCutP.binds (ps := ["piece", "start", "end"]) fun _ _ _ _ _ _ us hl => match us, hl with | [_, _, _], _ => rfl, PySem.W.mg_of X G aCutP⟩
  have FCutPs := fun_mk (st := sCutPs) lCutPs cCutPs kCutPs
  have DCutPs : Df K mg "cut_pieces" sCutPs ["pieces", "start", "end"] fCutPs _ := ⟨FCutPs, FCutPs.binds (ps := ["pieces", "start", "end"]) fun _ _ _ _ _ _ us hl => match us, hl with | [_, _, _], _ => rfl, PySem.W.mg_of X G aCutPs⟩
  have FGain := fun_mk (st := sGain) lGain cGain kGain
  have DGain : Df K mg "gained_pieces" sGain ["pieces", "gain"] fGain _ := ⟨FGain, FGain.binds (ps := ["pieces", "gain"]) fun _ _ _ _ _ _ us hl => match us, hl with | [_, _], _ => rfl, PySem.W.mg_of X G aGain⟩
  have FGs := fun_mk (st := sGs) lGs cGs kGs
  have DGs : Df K mg "gained_sample" sGs ["value", "gains"] fGs _ := ⟨FGs, FGs.binds (ps := ["value", "gains"]) fun _ _ _ _ _ _ us hl => match us, hl with | [_, _], _ => rfl, PySem.W.mg_of X G aGs⟩
  have FNames := fun_mk (st := sNames) lNames cNames kNames
  have DNames : Df K mg "names_in" sNames ["pieces"] fNames _ := ⟨FNames, FNames.binds (ps := ["pieces"]) fun _ _ _ _ _ _ us hl => match us, hl with | [_], _ => rfl, PySem.W.mg_of X G aNames⟩
  have FSam := fun_mk (st := sSam) lSam cSam kSam
  have DSam : Df K mg "sample_of" sSam ["pieces", "place", "sounds"] fSam _ := ⟨FSam, FSam.binds (ps := ["pieces", "place", "sounds"]) fun _ _ _ _ _ _ us hl => match us, hl with | [_, _, _], _ => rfl, PySem.W.mg_of X G aSam⟩
  have FPool := fun_mk (st := sPool) lPool cPool kPool
  have DPool : Df K mg "_law_pool" sPool ["_law_script", "_law_k"] fPool _ := ⟨FPool, FPool.binds (ps := ["_law_script", "_law_k"]) fun _ _ _ _ _ _ us hl => match us, hl with | [_, _], _ => rfl, PySem.W.mg_of X G aPool⟩
  have FTake := fun_mk (st := sTake) lTake cTake kTake
  have DTake : Df K mg "_law_take" sTake ["_law_pool_here", "_law_many"] fTake _ := ⟨FTake, FTake.binds (ps := ["_law_pool_here", "_law_many"]) fun _ _ _ _ _ _ us hl => match us, hl with | [_, _], _ => rfl, PySem.W.mg_of X G aTake⟩
  have FTree := fun_mk (st := sTree) lTree cTree kTree
  have DTree : Df K mg "_law_clip" sTree ["_law_pool_here", "_law_depth", "_law_lengths"] fTree _ := ⟨FTree, FTree.binds (ps := ["_law_pool_here", "_law_depth", "_law_lengths"]) fun _ _ _ _ _ _ us hl => match us, hl with | [_, _, _], _ => rfl, PySem.W.mg_of X G aTree⟩
  have FPlain := fun_mk (st := sPlain) lPlain cPlain kPlain
  have DPlain : Df K mg "_law_plain" sPlain ["_law_tree", "_law_sounds"] fPlain _ := ⟨FPlain, FPlain.binds (ps := ["_law_tree", "_law_sounds"]) fun _ _ _ _ _ _ us hl => match us, hl with | [_, _], _ => rfl, PySem.W.mg_of X G aPlain⟩
  have FMade := fun_mk (st := sMade) lMade cMade kMade
  have DMade : Df K mg "_law_made" sMade ["_law_tree"] fMade _ := ⟨FMade, FMade.binds (ps := ["_law_tree"]) fun _ _ _ _ _ _ us hl => match us, hl with | [_], _ => rfl, PySem.W.mg_of X G aMade⟩
  have FLN := fun_mk (st := sLNames) lLN cLN kLN
  have DLN : Df K mg "_law_names" sLNames ["_law_pieces"] fLN _ := ⟨FLN, FLN.binds (ps := ["_law_pieces"]) fun _ _ _ _ _ _ us hl => match us, hl with | [_], _ => rfl, PySem.W.mg_of X G aLN⟩
  have FPart := fun_mk (st := sPart) lPart cPart kPart
  have BPart := FPart.binds (ps := ["name", "start", "end"]) fun _ _ _ _ _ _ us hl => match us, hl with | [_, _, _], _ => rfl
  have FSil := fun_mk (st := sSil) lSil cSil kSil
  have BSil := FSil.binds (ps := ["count"]) fun _ _ _ _ _ _ us hl => match us, hl with | [_], _ => rfl
  have FSams := fun_mk (st := sSams) lSams cSams kSams
  have BSams := FSams.binds (ps := ["sound"]) fun _ _ _ _ _ _ us hl => match us, hl with | [_], _ => rfl
  have FLen := fun_mk (st := sLen) lLen cLen kLen
  have BLen := FLen.binds (ps := ["self"]) fun _ _ _ _ _ _ us hl => match us, hl with | [_], _ => rfl
  have FNms := fun_mk (st := sNms) lNms cNms kNms
  have BNms := FNms.binds (ps := ["self"]) fun _ _ _ _ _ _ us hl => match us, hl with | [_], _ => rfl
  have FPcs := fun_mk (st := sPcs) lPcs cPcs kPcs
  have BPcs := FPcs.binds (ps := ["self"]) fun _ _ _ _ _ _ us hl => match us, hl with | [_], _ => rfl
  have FReq := fun_mk (st := sReq) lReq cReq kReq
  have BReq := FReq.binds (ps := ["self", "start", "end"]) fun _ _ _ _ _ _ us hl => match us, hl with | [_, _, _], _ => rfl
  have FCut := fun_mk (st := sCut) lCut cCut kCut
  have BCut := FCut.binds (ps := ["self", "start", "end"]) fun _ _ _ _ _ _ us hl => match us, hl with | [_, _, _], _ => rfl
  have FGnd := fun_mk (st := sGnd) lGnd cGnd kGnd
  have BGnd := FGnd.binds (ps := ["self", "top", "bottom"]) fun _ _ _ _ _ _ us hl => match us, hl with | [_, _, _], _ => rfl
  have FSmp := fun_mk (st := sSmp) lSmp cSmp kSmp
  have BSmp := FSmp.binds (ps := ["self", "place", "sounds"]) fun _ _ _ _ _ _ us hl => match us, hl with | [_, _, _], _ => rfl
  have FAdd := fun_mk (st := sAdd) lAdd cAdd kAdd
  have BAdd := FAdd.binds (ps := ["self", "other"]) fun _ _ _ _ _ _ us hl => match us, hl with | [_, _], _ => rfl
  have FMul := fun_mk (st := sMul) lMul cMul kMul
  have BMul := FMul.binds (ps := ["self", "other"]) fun _ _ _ _ _ _ us hl => match us, hl with | [_, _], _ => rfl
  have FEq := fun_mk (st := sEq) lEq cEq kEq
  have BEq := FEq.binds (ps := ["self", "other"]) fun _ _ _ _ _ _ us hl => match us, hl with | [_, _], _ => rfl
  have FI : FunD K "__init__" "Clip.__init__" (defArgs sInit) (defBody sInit) (defScope sInit) [V.ref EI] [] fInit _ :=
    ⟨⟨ocInit, odInit, .ref TI, kVInit, dcInit, pmInit, anInit, cdInit, ctInit, slInit, rfl, lInit, cInit, .inr ⟨by simp, TI, _, [.ref EI], nT, rfl, lTI, rfl, .cons rfl .nil⟩, .inl rfl⟩, kInit⟩
  obtain ⟨ds, vd, BI⟩ := FI.binds1 (ps := ["self", "pieces"]) 2 1 (by simp) rfl fun T kV doc pm an cdv ct us its hl hi => match us, hl, its, hi with | [_, _], _, [_], _ => ⟨_, rfl, rfl⟩
  obtain rfl : ds = [] := by cases vd; rfl
  refine ⟨PySem.W.fnOf "law" "law" (defArgs sLaw) (defBody sLaw) (defScope sLaw) .none kVLaw dcLaw pmLaw anLaw cdLaw ctLaw, fun s v => .of_eq rfl, fun base _ _ => ?_⟩
  exact all_ok FLaw T B cs ⟨rd, ga⟩ ⟨eha, ehn, etk, ehm, eli⟩
    DIsInt DBetw DIsRow DReqS DIsName DPlen DTlen DPcnt DMerged DBoth DRepd DCutR DCutP DCutPs DGain DGs DNames DSam DPool DTake DTree DPlain DMade DLN
    FI BI ⟨mk, aInit, iInit, kc⟩
    FPart ⟨qPart, ⟨_, rPart⟩, kPart⟩ BPart
    FSil ⟨qSil, ⟨_, rSil⟩, kSil⟩ BSil
    FSams ⟨qSams, ⟨_, rSams⟩, kSams⟩ BSams
    FLen ⟨aLen, gLen, tLen, ⟨_, rLen⟩⟩ BLen
    FNms ⟨⟨aNms, iNms, kNms⟩, BNms⟩
    FPcs ⟨⟨aPcs, iPcs, kPcs⟩, BPcs⟩
    FReq ⟨⟨aReq, iReq, kReq⟩, BReq⟩
    FCut ⟨⟨aCut, iCut, kCut⟩, BCut⟩
    FGnd ⟨⟨aGnd, iGnd, kGnd⟩, BGnd⟩
    FSmp ⟨⟨aSmp, iSmp, kSmp⟩, BSmp⟩
    FAdd BAdd ⟨sf, aAdd, iAdd⟩
    FMul BMul ⟨sf, aMul, iMul⟩
    FEq BEq
    m1 m2 m3 m4 aEq iEq nf
theorem walk {l : PySem.W.OpenLaw} {q : Program} {loose : List Str} {XP : (Str → Option Value) → Heap → Prop} {YP : World → Heap → Prop} {d : DefRec} {K : Params → PySem.W.Frag} (hn : l.most = some 63) (hdf : d.params.defaults = [])
    (hY : ∀ (w : World) (h : Heap), YP w h → (K w.params).In h)
    (F : ∀ (w : World) (mg : Str → Option Value) (fa : Addr) (h : Heap), (K w.params).In h → h.Ns mainGlobals mg → mg d.name = some (.ref fa) →
      ∃ fd : FuncData, (∀ (s : Shared) (u : Value), BindsTo s fd ⟨[u], []⟩ [("_law_script", u)]) ∧ ∀ base : Heap, (K w.params).In base → base.Ns mainGlobals mg → FnOk l.prog w (K w.params) mg base CX0 60 fa fd ["_law_script"] (spLaw (K w.params))) :
    PySem.W.WalkO q loose XP YP l.row.toRowW d [] (fun f vs => PySem.call f vs) :=
  L2.walk_of (n := 63) (k := 60) (x := "_law_script") (CX := fun _ => CX0) (sp := fun w => spLaw (K w.params)) hn (by decide) hdf ⟨rfl, by decide, by decide⟩ hY F (fun _ _ a ns hl _ hS => ⟨a, ns, rfl, hS, hl, fun _ => rfl⟩) fun _ _ _ _ _ z => z
end K46
/-! the theorem -/
open PySem PySem.W PyProof.Rows
set_option Elab.async false
set_option maxRecDepth 100000 in
set_option maxHeartbeats 0 in
theorem PySem.Challenge.cw_framejoins_k46_whole_clips_are_their_sam_holds : PySem.Challenge.rw_framejoins_k46_whole_clips_are_their_sam.Holds := by
  w_on; o_law; k_head; (case hw => w_witness2)
  k_fill
  refine K46.walk (l := PySem.Challenge.rw_framejoins_k46_whole_clips_are_their_sam) rfl rfl (fun w h Y => PySem.W.kIn_of Y) ?F
  case F =>
    intro w mg fa h KX G hmg
    refine' K46.all_mk KX G hmg ?aIsInt ?lIsInt ?cIsInt ?kIsInt ?aBetw ?lBetw ?cBetw ?kBetw ?aIsRow ?lIsRow ?cIsRow ?kIsRow ?aReqS ?lReqS ?cReqS ?kReqS ?aIsName ?lIsName ?cIsName ?kIsName ?aPlen ?lPlen ?cPlen ?kPlen ?aTlen ?lTlen ?cTlen ?kTlen ?aPcnt ?lPcnt ?cPcnt ?kPcnt ?aMerged ?lMerged ?cMerged ?kMerged ?aBoth ?lBoth ?cBoth ?kBoth ?aRepd ?lRepd ?cRepd ?kRepd ?aCutR ?lCutR ?cCutR ?kCutR ?aCutP ?lCutP ?cCutP ?kCutP ?aCutPs ?lCutPs ?cCutPs ?kCutPs ?aGain ?lGain ?cGain ?kGain ?aGs ?lGs ?cGs ?kGs ?aNames ?lNames ?cNames ?kNames ?aSam ?lSam ?cSam ?kSam ?aPool ?lPool ?cPool ?kPool ?aTake ?lTake ?cTake ?kTake ?aTree ?lTree ?cTree ?kTree ?aPlain ?lPlain ?cPlain ?kPlain ?aMade ?lMade ?cMade ?kMade ?aLN ?lLN ?cLN ?kLN ?aLaw ?lLaw ?cLaw ?kLaw ?aC ?qPart ?rPart ?lPart ?cPart ?kPart ?qSil ?rSil ?lSil ?cSil ?kSil ?qSams ?rSams ?lSams ?cSams ?kSams ?aLen ?gLen ?tLen ?rLen ?lLen ?cLen ?kLen ?aNms ?iNms ?lNms ?cNms ?kNms ?aPcs ?iPcs ?lPcs ?cPcs ?kPcs ?aReq ?iReq ?lReq ?cReq ?kReq ?aCut ?iCut ?lCut ?cCut ?kCut ?aGnd ?iGnd ?lGnd ?cGnd ?kGnd ?aSmp ?iSmp ?lSmp ?cSmp ?kSmp ?aAdd ?iAdd ?lAdd ?cAdd ?kAdd ?aMul ?iMul ?lMul ?cMul ?kMul ?aEq ?iEq ?lEq ?cEq ?kEq ?aInit ?iInit ?lInit ?cInit ?kInit ?lTI ?pg ?hd ?po ?sa ?mk ?kc ?nP ?nL ?rd ?ga ?sf ?eha ?ehn ?etk ?ehm ?ei1 ?ei2 ?ei3 ?m1 ?m2 ?m3 ?m4 ?nf ?vname ?vlet_ ?vgain ?vpcs ?vcnt ?vlng ?z0 ?z1 ?z2 ?z3 ?z4 ?z5 ?z6 ?z7 ?z8 ?z9 ?z10 ?z11 ?z12 ?z13
    (case aIsInt => k_is)
    (case lIsInt => k_is)
    (case cIsInt => k_is)
    (case kIsInt => k_is)
    (case aBetw => k_is)
    (case lBetw => k_is)
    (case cBetw => k_is)
    (case kBetw => k_is)
    (case aIsRow => k_is)
    (case lIsRow => k_is)
    (case cIsRow => k_is)
    (case kIsRow => k_is)
    (case aReqS => k_is)
    (case lReqS => k_is)
    (case cReqS => k_is)
    (case kReqS => k_is)
    (case aIsName => k_is)
    (case lIsName => k_is)
    (case cIsName => k_is)
    (case kIsName => k_is)
    (case aPlen => k_is)
    (case lPlen => k_is)
    (case cPlen => k_is)
    (case kPlen => k_is)
    (case aTlen => k_is)
    (case lTlen => k_is)
    (case cTlen => k_is)
    (case kTlen => k_is)
    (case aPcnt => k_is)
    (case lPcnt => k_is)
    (case cPcnt => k_is)
    (case kPcnt => k_is)
    (case aMerged => k_is)
    (case lMerged => k_is)
    (case cMerged => k_is)
    (case kMerged => k_is)
    (case aBoth => k_is)
    (case lBoth => k_is)
    (case cBoth => k_is)
    (case kBoth => k_is)
    (case aRepd => k_is)
    (case lRepd => k_is)
    (case cRepd => k_is)
    (case kRepd => k_is)
    (case aCutR => k_is)
    (case lCutR => k_is)
    (case cCutR => k_is)
    (case kCutR => k_is)
    (case aCutP => k_is)
    (case lCutP => k_is)
    (case cCutP => k_is)
    (case kCutP => k_is)
    (case aCutPs => k_is)
    (case lCutPs => k_is)
    (case cCutPs => k_is)
    (case kCutPs => k_is)
    (case aGain => k_is)
    (case lGain => k_is)
    (case cGain => k_is)
    (case kGain => k_is)
    (case aGs => k_is)
    (case lGs => k_is)
    (case cGs => k_is)
    (case kGs => k_is)
    (case aNames => k_is)
    (case lNames => k_is)
    (case cNames => k_is)
    (case kNames => k_is)
    (case aSam => k_is)
    (case lSam => k_is)
    (case cSam => k_is)
    (case kSam => k_is)
    (case aPool => k_is)
    (case lPool => k_is)
    (case cPool => k_is)
    (case kPool => k_is)
    (case aTake => k_is)
    (case lTake => k_is)
    (case cTake => k_is)
    (case kTake => k_is)
    (case aTree => k_is)
    (case lTree => k_is)
    (case cTree => k_is)
    (case kTree => k_is)
    (case aPlain => k_is)
    (case lPlain => k_is)
    (case cPlain => k_is)
    (case kPlain => k_is)
    (case aMade => k_is)
    (case lMade => k_is)
    (case cMade => k_is)
    (case kMade => k_is)
    (case aLN => k_is)
    (case lLN => k_is)
    (case cLN => k_is)
    (case kLN => k_is)
    (case aLaw => k_is)
    (case lLaw => k_is)
    (case cLaw => k_is)
    (case kLaw => k_is)
    (case aC => k_is)
    (case qPart => k_is)
    (case rPart => k_is)
    (case lPart => k_is)
    (case cPart => k_is)
    (case kPart => k_is)
    (case qSil => k_is)
    (case rSil => k_is)
    (case lSil => k_is)
    (case cSil => k_is)
    (case kSil => k_is)
    (case qSams => k_is)
    (case rSams => k_is)
    (case lSams => k_is)
    (case cSams => k_is)
    (case kSams => k_is)
    (case aLen => k_is)
    (case gLen => k_is)
    (case tLen => k_is)
    (case rLen => k_is)
    (case lLen => k_is)
    (case cLen => k_is)
    (case kLen => k_is)
    (case aNms => k_is)
    (case iNms => k_is)
    (case lNms => k_is)
    (case cNms => k_is)
    (case kNms => k_is)
    (case aPcs => k_is)
    (case iPcs => k_is)
    (case lPcs => k_is)
    (case cPcs => k_is)
    (case kPcs => k_is)
    (case aReq => k_is)
    (case iReq => k_is)
    (case lReq => k_is)
    (case cReq => k_is)
    (case kReq => k_is)
    (case aCut => k_is)
    (case iCut => k_is)
    (case lCut => k_is)
    (case cCut => k_is)
    (case kCut => k_is)
    (case aGnd => k_is)
    (case iGnd => k_is)
    (case lGnd => k_is)
    (case cGnd => k_is)
    (case kGnd => k_is)
    (case aSmp => k_is)
    (case iSmp => k_is)
    (case lSmp => k_is)
    (case cSmp => k_is)
    (case kSmp => k_is)
    (case aAdd => k_is)
    (case iAdd => k_is)
    (case lAdd => k_is)
    (case cAdd => k_is)
    (case kAdd => k_is)
    (case aMul => k_is)
    (case iMul => k_is)
    (case lMul => k_is)
    (case cMul => k_is)
    (case kMul => k_is)
    (case aEq => k_is)
    (case iEq => k_is)
    (case lEq => k_is)
    (case cEq => k_is)
    (case kEq => k_is)
    (case aInit => k_is)
    (case iInit => k_is)
    (case lInit => k_is)
    (case cInit => k_is)
    (case kInit => k_is)
    (case lTI => k_is)
    (case pg => k_is)
    (case hd => k_is)
    (case po => k_is)
    (case sa => k_is)
    (case mk => k_is)
    (case kc => k_is)
    (case nP => k_is)
    (case nL => k_is)
    (case rd => k_is)
    (case ga => k_is)
    (case sf => k_is)
    (case eha => k_is)
    (case ehn => k_is)
    (case etk => k_is)
    (case ehm => k_is)
    (case ei1 => k_is)
    (case ei2 => k_is)
    (case ei3 => k_is)
    (case m1 => k_is)
    (case m2 => k_is)
    (case m3 => k_is)
    (case m4 => k_is)
    (case nf => k_is)
    (case vname => k_is)
    (case vlet_ => k_is)
    (case vgain => k_is)
    (case vpcs => k_is)
    (case vcnt => k_is)
    (case vlng => k_is)
    (case z0 => k_is)
    (case z1 => k_is)
    (case z2 => k_is)
    (case z3 => k_is)
    (case z4 => k_is)
    (case z5 => k_is)
    (case z6 => k_is)
    (case z7 => k_is)
    (case z8 => k_is)
    (case z9 => k_is)
    (case z10 => k_is)
    (case z11 => k_is)
    (case z12 => k_is)
    (case z13 => k_is)
