import PyProof.Rows.All
import Wide.All
import OpenK.AllK
import Wide.FinOn
import HandS.ForMost
import HandS.HeadHook4
import HandS.HeadWalk
import HandS.Head2
import HandS.AnyAll
import HandS.GenOver
import HandS.Gcd
import HandS.Strs
import HandS.SetFor
import HandS.TupAny
import HandS.Style
import HandS.IsInst
import HandS.Walk
import KE.GoesEnum
import KE.KMathGC
import HandS.Conv
import HandS.SortInts
import PySem.Challenge.RW_eventcore_k53_whole_fair_schedules_judge
section
set_option Elab.async false
set_option linter.all false
set_option maxRecDepth 100000
/-! The text by places. -/
namespace Fair
open PySem L2
def top (i : Nat) : Stmt := PySem.Challenge.pw_eventcore_k53_whole_fair_schedules_judge.main.body.getD i (.Pass ⟨0, 0, 0, 0⟩)
abbrev sIsIn : Stmt := top 7
abbrev sNeedMach : Stmt := top 10
abbrev sRising : Stmt := top 11
abbrev sIsPair : Stmt := top 15
abbrev sNeedPairs : Stmt := top 16
abbrev sCycle : Stmt := top 19
abbrev sNeedFair : Stmt := top 20
abbrev sInit : Stmt := inClass (top 21) 0
abbrev sRivals : Stmt := inClass (top 21) 1
abbrev sPlace : Stmt := inClass (top 21) 2
abbrev sMove : Stmt := inClass (top 21) 3
abbrev sFair : Stmt := top 22
abbrev sShows : Stmt := top 23
abbrev sTaken : Stmt := top 25
abbrev sPick : Stmt := top 26
abbrev sAlike : Stmt := top 27
abbrev sPairs : Stmt := top 28
abbrev sLCycle : Stmt := top 29
abbrev sIsFair : Stmt := top 30
abbrev sLaw : Stmt := top 31
abbrev FnP (K : PySem.W.Frag) (x q : Str) (st : Stmt) (f : Addr) (fd : FuncData) : Prop := FunD K x q (defArgs st) (defBody st) (defScope st) [] [] f fd
def dd (x : Str) (st : Stmt) : He.DefD := ⟨(x, none), x, x, defArgs st, defBody st, defScope st, [], []⟩
def dm (c m q : Str) (st : Stmt) : He.DefD := ⟨(c, some m), m, q, defArgs st, defBody st, defScope st, [], []⟩
def dIsIn := dd "is_in" sIsIn
def dNeedMach := dd "need_machines" sNeedMach
def dRising := dd "is_rising" sRising
def dIsPair := dd "is_pair" sIsPair
def dNeedPairs := dd "need_pairs" sNeedPairs
def dCycle := dd "cycle_of" sCycle
def dNeedFair := dd "need_fair" sNeedFair
def dInit := dm "Turns" "__init__" "Turns.__init__" sInit
def dRivals := dm "Turns" "rivals" "Turns.rivals" sRivals
def dPlace := dm "Turns" "place" "Turns.place" sPlace
def dMove := dm "Turns" "move" "Turns.move" sMove
def dFair := dd "fair_schedule" sFair
def dShows := dd "shows_fair" sShows
def dTaken := dd "_law_taken" sTaken
def dPick := dd "_law_pick" sPick
def dAlike := dd "_law_alike" sAlike
def dPairs := dd "_law_pairs" sPairs
def dLCycle := dd "_law_cycle" sLCycle
def dIsFair := dd "_law_is_fair" sIsFair
def dLaw := dd "law" sLaw
def fn : List He.DefD := [dIsIn, dNeedMach, dRising, dIsPair, dNeedPairs, dCycle, dNeedFair, dInit, dRivals, dPlace, dMove, dFair, dShows, dTaken, dPick, dAlike, dPairs, dLCycle, dIsFair, dLaw]
def fa : List He.Fa := [.glo "is_in", .glo "need_machines", .glo "is_rising", .glo "is_pair", .glo "need_pairs", .glo "cycle_of", .glo "need_fair", .glo "Turns", .glo "fair_schedule", .glo "shows_fair",
  .glo "_law_taken", .glo "_law_pick", .glo "_law_alike", .glo "_law_pairs", .glo "_law_cycle", .glo "_law_is_fair", .glo "law",
  .int "MOST_MACHINES" 4, .int "MOST_PAIRS" 4, .int "MOST_GAP" 12, .int "MOST_FAIR" 60,
  .free "isinstance", .free "int", .free "bool", .free "tuple", .free "list", .free "str", .free "all", .free "len", .free "range", .free "enumerate", .free "sum", .free "sorted", .free "set", .free "max", .free "abs",
  .cls "Turns", .noat "Turns" "machines", .noat "Turns" "owner", .noat "Turns" "window", .noat "Turns" "rows", .meth "Turns" "rivals", .meth "Turns" "place", .meth "Turns" "move", .mkr "Turns"]
def ex (K : PySem.W.Frag) : Bool := He.eqO (PySem.W.nsIn K mainGlobals "lcm") (some (some (.builtin "math.lcm")))
def tf : List He.Defn := [("is_rising", none), ("fair_schedule", none), ("shows_fair", none)]
end Fair
end

section
set_option linter.all false
namespace FM
/-! sums over 0 .. n-1 -/
def sm : Nat → (Nat → Nat) → Nat
  | 0, _ => 0
  | n + 1, f => sm n f + f n
theorem sm_congr {n : Nat} {f g : Nat → Nat} (h : ∀ i, i < n → f i = g i) : sm n f = sm n g := by
  induction n with
  | zero => rfl
  | succ n ih => simp only [sm]; rw [ih fun i hi => h i (by omega), h n (by omega)]
theorem sm_le {n : Nat} {f g : Nat → Nat} (h : ∀ i, i < n → f i ≤ g i) : sm n f ≤ sm n g := by
  induction n with
  | zero => exact Nat.le_refl _
  | succ n ih =>
    simp only [sm]
    have := ih fun i hi => h i (by omega)
    have := h n (by omega)
    omega
theorem sm_add {n : Nat} {f g : Nat → Nat} : sm n (fun i => f i + g i) = sm n f + sm n g := by
  induction n with
  | zero => rfl
  | succ n ih => simp only [sm]; rw [ih]; omega
theorem sm_mul {n c : Nat} {f : Nat → Nat} : sm n (fun i => c * f i) = c * sm n f := by
  induction n with
  | zero => rfl
  | succ n ih => simp only [sm]; rw [ih, Nat.mul_add]
theorem sm_zero {n : Nat} : sm n (fun _ => 0) = 0 := by
  induction n with
  | zero => rfl
  | succ n ih => simp only [sm]; omega
theorem sm_const {n c : Nat} : sm n (fun _ => c) = n * c := by
  induction n with
  | zero => simp [sm]
  | succ n ih => simp only [sm]; rw [ih, Nat.succ_mul]
theorem sm_comm {m n : Nat} {f : Nat → Nat → Nat} : sm m (fun i => sm n (fun j => f i j)) = sm n (fun j => sm m (fun i => f i j)) := by
  induction m with
  | zero => simp only [sm]; rw [sm_zero]
  | succ m ih => simp only [sm]; rw [ih, ← sm_add]
/-! sums over lists -/
def ls {α : Type} (l : List α) (f : α → Nat) : Nat := (l.map f).sum
theorem ls_nil {α : Type} {f : α → Nat} : ls [] f = 0 := rfl
theorem ls_cons {α : Type} {a : α} {l : List α} {f : α → Nat} : ls (a :: l) f = f a + ls l f := by simp [ls]
theorem ls_append {α : Type} {l m : List α} {f : α → Nat} : ls (l ++ m) f = ls l f + ls m f := by simp [ls]
theorem ls_le {α : Type} {l : List α} {f g : α → Nat} (h : ∀ a ∈ l, f a ≤ g a) : ls l f ≤ ls l g := by
  induction l with
  | nil => exact Nat.le_refl _
  | cons a l ih =>
    rw [ls_cons, ls_cons]
    have := h a List.mem_cons_self
    have := ih fun b hb => h b (List.mem_cons_of_mem _ hb)
    omega
theorem ls_congr {α : Type} {l : List α} {f g : α → Nat} (h : ∀ a ∈ l, f a = g a) : ls l f = ls l g :=
  Nat.le_antisymm (ls_le fun a ha => Nat.le_of_eq (h a ha)) (ls_le fun a ha => Nat.le_of_eq (h a ha).symm)
theorem ls_add {α : Type} {l : List α} {f g : α → Nat} : ls l (fun a => f a + g a) = ls l f + ls l g := by
  induction l with
  | nil => rfl
  | cons a l ih => rw [ls_cons, ls_cons, ls_cons, ih]; omega
theorem ls_const {α : Type} {l : List α} {c : Nat} : ls l (fun _ => c) = l.length * c := by
  induction l with
  | nil => simp [ls]
  | cons a l ih => rw [ls_cons, ih, List.length_cons, Nat.succ_mul]; omega
theorem ls_zero {α : Type} {l : List α} : ls l (fun _ => 0) = 0 := by rw [ls_const]; simp
theorem ls_sm {α : Type} {l : List α} {n : Nat} {f : α → Nat → Nat} : ls l (fun a => sm n (f a)) = sm n (fun i => ls l (fun a => f a i)) := by
  induction l with
  | nil => simp only [ls_nil]; rw [sm_zero]
  | cons a l ih => rw [ls_cons, ih, ← sm_add]; exact sm_congr fun i _ => (ls_cons (f := fun a => f a i)).symm
theorem ls_comm {α β : Type} {l : List α} {m : List β} {f : α → β → Nat} : ls l (fun a => ls m (f a)) = ls m (fun b => ls l (fun a => f a b)) := by
  induction l with
  | nil => simp only [ls_nil]; rw [ls_zero]
  | cons a l ih => rw [ls_cons, ih, ← ls_add]; exact ls_congr fun b _ => (ls_cons (f := fun a => f a b)).symm
theorem ls_range {n : Nat} {f : Nat → Nat} : ls (List.range n) f = sm n f := by
  induction n with
  | zero => rfl
  | succ n ih => rw [List.range_succ, ls_append, ih, ls_cons, ls_nil]; simp only [sm]; omega
theorem ls_map {α β : Type} {l : List α} {g : α → β} {f : β → Nat} : ls (l.map g) f = ls l (fun a => f (g a)) := by simp [ls, Function.comp_def]
theorem ls_flatMap {α β : Type} {l : List α} {g : α → List β} {f : β → Nat} : ls (l.flatMap g) f = ls l (fun a => ls (g a) f) := by
  induction l with
  | nil => rfl
  | cons a l ih => rw [List.flatMap_cons, ls_append, ls_cons, ih]
/-- an indicator -/
def ind (p : Prop) [Decidable p] : Nat := if p then 1 else 0
theorem ind_le {p : Prop} [Decidable p] : ind p ≤ 1 := by unfold ind; split <;> omega
theorem ind_t {p : Prop} [Decidable p] (h : p) : ind p = 1 := if_pos h
theorem ind_f {p : Prop} [Decidable p] (h : ¬ p) : ind p = 0 := if_neg h
theorem ls_filter {α : Type} {l : List α} {p : α → Bool} {f : α → Nat} : ls (l.filter p) f = ls l (fun a => ind (p a = true) * f a) := by
  induction l with
  | nil => rfl
  | cons a l ih =>
    rw [ls_cons, ← ih, List.filter_cons]
    by_cases h : p a = true
    · rw [if_pos h, ls_cons, ind_t h]; omega
    · rw [if_neg h, ind_f h]; omega
theorem length_ls {α : Type} {l : List α} : l.length = ls l (fun _ => 1) := by rw [ls_const]; omega
/-- a nodup list of numbers below n, as a sum of indicators -/
theorem ls_nodup {n : Nat} {l : List Nat} {f : Nat → Nat} (nd : l.Nodup) (hl : ∀ a ∈ l, a < n) : ls l f = sm n (fun i => ind (i ∈ l) * f i) := by
  induction l with
  | nil => rw [ls_nil, ← sm_zero (n := n)]; exact sm_congr fun i _ => by rw [ind_f (by simp)]; simp
  | cons a l ih =>
    obtain ⟨h1, h2⟩ := List.nodup_cons.mp nd
    rw [ls_cons, ih h2 fun b hb => hl b (List.mem_cons_of_mem _ hb)]
    have ha : a < n := hl a List.mem_cons_self
    have e : f a = sm n (fun i => ind (i = a) * f i) := by
      clear ih h1 h2 nd hl
      induction n with
      | zero => omega
      | succ n ih =>
        simp only [sm]
        by_cases h : a = n
        · subst h
          rw [ind_t rfl, sm_congr (g := fun _ => 0) fun i hi => by rw [ind_f (by omega)]; simp, sm_zero]; omega
        · rw [ind_f (fun q => h q.symm), ← ih (by omega)]; omega
    rw [e, ← sm_add]
    refine sm_congr fun i _ => ?_
    by_cases h : i = a
    · subst h
      rw [ind_t rfl, ind_f h1, ind_t List.mem_cons_self]; omega
    · rw [ind_f h]
      by_cases h3 : i ∈ l
      · rw [ind_t h3, ind_t (List.mem_cons_of_mem _ h3)]; omega
      · rw [ind_f h3, ind_f (by simp [h, h3])]; omega

/-! the fluid weights -/
/-- what turn j (of length g) has in unit u (of length c) -/
def ov (g c j u : Nat) : Nat := min ((j + 1) * g) ((u + 1) * c) - max (j * g) (u * c)
theorem ov_units (g c j n : Nat) : sm n (fun u => ov g c j u) = min ((j + 1) * g) (n * c) - min (j * g) (n * c) := by
  induction n with
  | zero => simp [sm]
  | succ n ih =>
    simp only [sm]
    rw [ih]
    unfold ov
    have h1 : j * g ≤ (j + 1) * g := Nat.mul_le_mul_right _ (by omega)
    have h2 : n * c ≤ (n + 1) * c := Nat.mul_le_mul_right _ (by omega)
    omega
theorem ov_turns (g c u n : Nat) : sm n (fun j => ov g c j u) = min ((u + 1) * c) (n * g) - min (u * c) (n * g) := by
  induction n with
  | zero => simp [sm]
  | succ n ih =>
    simp only [sm]
    rw [ih]
    unfold ov
    have h1 : n * g ≤ (n + 1) * g := Nat.mul_le_mul_right _ (by omega)
    have h2 : u * c ≤ (u + 1) * c := Nat.mul_le_mul_right _ (by omega)
    omega
theorem ov_units_all {g c j L M : Nat} (hL : L = M * g) (hj : j < M * c) : sm L (fun u => ov g c j u) = g := by
  rw [ov_units]
  have h1 : (j + 1) * g ≤ L * c := by
    rw [hL]
    calc (j + 1) * g ≤ (M * c) * g := Nat.mul_le_mul_right _ hj
      _ = M * g * c := by rw [Nat.mul_right_comm]
  have h2 : (j + 1) * g = j * g + g := Nat.succ_mul _ _
  omega
theorem ov_turns_all {g c u L M : Nat} (hL : L = M * g) (hu : u < L) : sm (M * c) (fun j => ov g c j u) = c := by
  rw [ov_turns]
  have h1 : (u + 1) * c ≤ M * c * g := by
    calc (u + 1) * c ≤ L * c := Nat.mul_le_mul_right _ hu
      _ = M * c * g := by rw [hL, Nat.mul_right_comm]
  have h2 : (u + 1) * c = u * c + c := Nat.succ_mul _ _
  omega
end FM
end

section
set_option linter.all false
namespace FM
open Classical in
/-- Hall: a closed set of turns, one of which has no unit, contradicts the fluid weights -/
theorem hall {N U m Lw : Nat} {O : Nat → Nat} {Win : Nat → Nat → Prop} {R : Nat → List Nat} {w : Nat → Nat → Nat} {S : List Nat}
    (hL : 0 < Lw) (h1 : ∀ t, t < N → sm U (w t) = Lw) (h2 : ∀ u, u < U → ∀ k, sm N (fun t => ind (O t = k) * w t u) ≤ Lw) (h3 : ∀ u, u < U → sm N (fun t => w t u) ≤ m * Lw)
    (h4 : ∀ t, t < N → ∀ u, u < U → 0 < w t u → Win t u) (nd : S.Nodup) (hS : ∀ s ∈ S, s < N) (hR : ∀ u, u < U → (R u).Nodup)
    (occ : ls S (fun s => sm U (fun u => ind (s ∈ R u))) < S.length)
    (cl : ∀ s ∈ S, ∀ u, u < U → Win s u → s ∈ R u ∨ (∃ r ∈ R u, r ∈ S ∧ O r = O s) ∨ (m ≤ (R u).length ∧ ∀ r ∈ R u, r ∈ S)) : False := by
  have key : ∀ u, u < U → ls S (fun s => w s u) ≤ Lw * ls S (fun s => ind (s ∈ R u)) := by
    intro u hu
    by_cases hc : m ≤ (R u).length ∧ ∀ r ∈ R u, r ∈ S
    · have e1 : ls S (fun s => w s u) ≤ sm N (fun t => w t u) := by
        rw [ls_nodup nd hS]
        exact sm_le fun i _ => by
          have := @ind_le (i ∈ S) _
          calc ind (i ∈ S) * w i u ≤ 1 * w i u := Nat.mul_le_mul_right _ ind_le
            _ = w i u := Nat.one_mul _
      have e2 : (R u).length ≤ ls S (fun s => ind (s ∈ R u)) := by
        rw [length_ls, ls_nodup (n := N) (hR u hu) (fun a ha => hS a (hc.2 a ha)), ls_nodup nd hS]
        refine sm_le fun i _ => ?_
        by_cases h : i ∈ R u
        · rw [ind_t h, ind_t (hc.2 i h)]; omega
        · rw [ind_f h]; omega
      have e3 := h3 u hu
      calc ls S (fun s => w s u) ≤ m * Lw := Nat.le_trans e1 e3
        _ ≤ ls S (fun s => ind (s ∈ R u)) * Lw := Nat.mul_le_mul_right _ (Nat.le_trans hc.1 e2)
        _ = _ := Nat.mul_comm _ _
    · have hex : ∀ s ∈ S, 0 < w s u → ∃ r ∈ S, r ∈ R u ∧ O s = O r := fun s hs hw => by
        rcases cl s hs u hu (h4 s (hS s hs) u hu hw) with z | ⟨r, z1, z2, z3⟩ | z
        · exact ⟨s, hs, z, rfl⟩
        · exact ⟨r, z2, z1, z3.symm⟩
        · exact absurd z hc
      have e1 : ls S (fun s => w s u) ≤ ls S (fun s => ls S (fun r => ind (r ∈ R u) * (ind (O s = O r) * w s u))) := by
        refine ls_le fun s hs => ?_
        by_cases hw : 0 < w s u
        · obtain ⟨r, r1, r2, r3⟩ := hex s hs hw
          have : ∀ (l : List Nat), r ∈ l → w s u ≤ ls l (fun r => ind (r ∈ R u) * (ind (O s = O r) * w s u)) := by
            intro l hl
            induction l with
            | nil => cases hl
            | cons a l ih =>
              rw [ls_cons]
              rcases List.mem_cons.mp hl with e | hl
              · subst e
                rw [ind_t r2, ind_t r3]; omega
              · have := ih hl; omega
          exact this S r1
        · omega
      have e2 : ls S (fun s => ls S (fun r => ind (r ∈ R u) * (ind (O s = O r) * w s u))) ≤ ls S (fun r => Lw * ind (r ∈ R u)) := by
        rw [ls_comm]
        refine ls_le fun r hr => ?_
        have e3 : ls S (fun s => ind (O s = O r) * w s u) ≤ Lw := by
          refine Nat.le_trans ?_ (h2 u hu (O r))
          rw [ls_nodup nd hS]
          refine sm_le fun i _ => ?_
          calc ind (i ∈ S) * (ind (O i = O r) * w i u) ≤ 1 * (ind (O i = O r) * w i u) := Nat.mul_le_mul_right _ ind_le
            _ = _ := Nat.one_mul _
        by_cases h : r ∈ R u
        · rw [ls_congr (g := fun s => ind (O s = O r) * w s u) fun s _ => by rw [ind_t h, Nat.one_mul], ind_t h]; omega
        · rw [ls_congr (g := fun _ => 0) fun s _ => by rw [ind_f h, Nat.zero_mul], ls_zero]; omega
      have e3 : ls S (fun r => Lw * ind (r ∈ R u)) = Lw * ls S (fun s => ind (s ∈ R u)) := by
        generalize S = l
        induction l with
        | nil => simp [ls_nil]
        | cons a l ih => rw [ls_cons, ls_cons, ih, Nat.mul_add]
      omega
  have t1 : ls S (fun s => sm U (w s)) = S.length * Lw := by
    rw [ls_congr (g := fun _ => Lw) fun s hs => h1 s (hS s hs), ls_const]
  have t2 : ls S (fun s => sm U (w s)) ≤ Lw * ls S (fun s => sm U (fun u => ind (s ∈ R u))) := by
    rw [ls_sm, ls_sm, ← sm_mul]
    exact sm_le key
  have t3 : Lw * ls S (fun s => sm U (fun u => ind (s ∈ R u))) < Lw * S.length := Nat.mul_lt_mul_of_pos_left occ hL
  rw [t1, Nat.mul_comm] at t2
  omega

/-! ### rows -/
def rowAt (R : List (List Nat)) (u : Nat) : List Nat := R.getD u []
theorem rowAt_set_same {R : List (List Nat)} {u : Nat} {r : List Nat} (h : u < R.length) : rowAt (R.set u r) u = r := by
  simp [rowAt, List.getD_eq_getElem?_getD, List.getElem?_set_self h]
theorem rowAt_set_ne {R : List (List Nat)} {u v : Nat} {r : List Nat} (h : v ≠ u) : rowAt (R.set u r) v = rowAt R v := by
  simp [rowAt, List.getD_eq_getElem?_getD, List.getElem?_set_ne (Ne.symm h)]
structure Valid (O : Nat → Nat) (Win : Nat → Nat → Prop) (m U : Nat) (R : List (List Nat)) : Prop where
  len : R.length = U
  win : ∀ u, u < U → ∀ t ∈ rowAt R u, Win t u
  own : ∀ u, u < U → ((rowAt R u).map O).Nodup
  cap : ∀ u, u < U → (rowAt R u).length ≤ m
def occ (R : List (List Nat)) (t : Nat) : Nat := ls R (fun r => r.count t)
theorem occ_set {R : List (List Nat)} {u t : Nat} {r : List Nat} (h : u < R.length) : occ (R.set u r) t + (rowAt R u).count t = occ R t + r.count t := by
  induction R generalizing u with
  | nil => cases h
  | cons a R ih =>
    cases u with
    | zero =>
      show ls (r :: R) _ + (List.count t a) = ls (a :: R) _ + _
      rw [ls_cons, ls_cons]; omega
    | succ u =>
      have := ih (u := u) (by simpa using h)
      show ls (a :: R.set u r) _ + (rowAt R u).count t = ls (a :: R) _ + _
      rw [ls_cons, ls_cons]
      unfold occ at this
      omega
theorem nodup_of_map {O : Nat → Nat} {l : List Nat} (h : (l.map O).Nodup) : l.Nodup := by
  induction l with
  | nil => exact List.nodup_nil
  | cons a l ih =>
    obtain ⟨h1, h2⟩ := List.nodup_cons.mp h
    exact List.nodup_cons.mpr ⟨fun q => h1 (List.mem_map_of_mem q), ih h2⟩
theorem map_inj_of {O : Nat → Nat} {l : List Nat} (h : (l.map O).Nodup) {a b : Nat} (ha : a ∈ l) (hb : b ∈ l) (e : O a = O b) : a = b := by
  induction l with
  | nil => cases ha
  | cons c l ih =>
    obtain ⟨h1, h2⟩ := List.nodup_cons.mp h
    rcases List.mem_cons.mp ha with ea | ha' <;> rcases List.mem_cons.mp hb with eb | hb'
    · rw [ea, eb]
    · rw [ea] at e; exact absurd (e ▸ List.mem_map_of_mem hb') h1
    · rw [eb] at e; exact absurd (e ▸ List.mem_map_of_mem ha') h1
    · exact ih h2 ha' hb'
theorem Valid.nd {O : Nat → Nat} {Win : Nat → Nat → Prop} {m U : Nat} {R : List (List Nat)} (v : Valid O Win m U R) {u : Nat} (h : u < U) : (rowAt R u).Nodup := nodup_of_map (v.own u h)
/-- a row is changed -/
theorem Valid.set {O : Nat → Nat} {Win : Nat → Nat → Prop} {m U : Nat} {R : List (List Nat)} (v : Valid O Win m U R) {u : Nat} {r : List Nat} (hu : u < U) (hw : ∀ t ∈ r, Win t u) (ho : (r.map O).Nodup) (hc : r.length ≤ m) : Valid O Win m U (R.set u r) := by
  have hl : u < R.length := by rw [v.len]; exact hu
  refine ⟨by rw [List.length_set]; exact v.len, fun x hx t ht => ?_, fun x hx => ?_, fun x hx => ?_⟩
  · by_cases e : x = u
    · subst e; rw [rowAt_set_same hl] at ht; exact hw t ht
    · rw [rowAt_set_ne e] at ht; exact v.win x hx t ht
  · by_cases e : x = u
    · subst e; rw [rowAt_set_same hl]; exact ho
    · rw [rowAt_set_ne e]; exact v.own x hx
  · by_cases e : x = u
    · subst e; rw [rowAt_set_same hl]; exact hc
    · rw [rowAt_set_ne e]; exact v.cap x hx

/-! ### the tree of moves, newest first: (x, h, u): x may be moved out of u for h -/
abbrev Ent := Nat × Nat × Nat
def Chain (O : Nat → Nat) (turn : Nat) : List Ent → Prop
  | [] => True
  | (x, h, u) :: T => Chain O turn T ∧ (h = turn ∨ ∃ e ∈ T, e.1 = h) ∧ x ≠ turn ∧ (∀ e ∈ T, e.1 ≠ x) ∧ ∀ e ∈ T, e.2.2 = u → e.2.1 ≠ h → O e.2.1 = O e.1
theorem Chain.suffix {O : Nat → Nat} {turn : Nat} : ∀ {A B : List Ent}, Chain O turn (A ++ B) → Chain O turn B
  | [], _, h => h
  | _ :: A, _, h => Chain.suffix (A := A) h.1
/-- in a chain that begins with x's entry, no entry's parent is x -/
theorem Chain.parent {O : Nat → Nat} {turn x h u : Nat} : ∀ {T : List Ent}, Chain O turn ((x, h, u) :: T) → ∀ e ∈ T, e.2.1 ≠ x
  | T, c, e, he, q => by
    obtain ⟨c1, c2, c3, c4, c5⟩ := c
    -- e = (y, x, v) in T: its parent x stands in T or is turn
    have : ∀ T : List Ent, Chain O turn T → e ∈ T → e.2.1 = turn ∨ ∃ f ∈ T, f.1 = e.2.1 := by
      intro T
      induction T with
      | nil => intro _ h; cases h
      | cons a T ih =>
        intro c he
        rcases List.mem_cons.mp he with z | he
        · subst z
          rcases c.2.1 with z | ⟨f, hf, z⟩
          · exact .inl z
          · exact .inr ⟨f, List.mem_cons_of_mem _ hf, z⟩
        · rcases ih c.1 he with z | ⟨f, hf, z⟩
          · exact .inl z
          · exact .inr ⟨f, List.mem_cons_of_mem _ hf, z⟩
    rcases this T c1 he with z | ⟨f, hf, z⟩
    · rw [q] at z; exact c3 z
    · exact c4 f hf (z.trans q)
/-- the state of the flip: all is well, but that here stands in one unit more -/
structure Flip (O : Nat → Nat) (Win : Nat → Nat → Prop) (m U turn : Nat) (c0 : Nat → Nat) (R : List (List Nat)) (T : List Ent) (here : Nat) : Prop where
  valid : Valid O Win m U R
  cnt : ∀ t, occ R t = c0 t + ind (t = here)
  chain : Chain O turn T
  good : ∀ e ∈ T, e.2.2 < U ∧ e.1 ∈ rowAt R e.2.2 ∧ Win e.2.1 e.2.2 ∧ (O e.2.1 = O e.1 ∨ ∀ y ∈ rowAt R e.2.2, O y ≠ O e.2.1)
  top : (here = turn ∧ T = []) ∨ ∃ h u T', T = (here, h, u) :: T'
def swap (R : List (List Nat)) (u x y : Nat) : List (List Nat) := R.set u ((rowAt R u).erase x ++ [y])
theorem count_swap {l : List Nat} {x y t : Nat} (h : x ∈ l) : (l.erase x ++ [y]).count t + ind (t = x) = l.count t + ind (t = y) := by
  rw [List.count_append, List.count_erase]
  have e1 : [y].count t = ind (t = y) := by
    by_cases h : t = y
    · subst h; simp [ind]
    · rw [ind_f h, List.count_eq_zero]; simp [h]
  rw [e1]
  by_cases h2 : t = x
  · subst h2
    have := List.count_pos_iff.mpr h
    rw [ind_t rfl]
    simp
    omega
  · rw [ind_f h2]
    have : (x == t) = false := by simpa using fun q => h2 q.symm
    rw [this]; simp
theorem Flip.step {O : Nat → Nat} {Win : Nat → Nat → Prop} {m U turn : Nat} {c0 : Nat → Nat} {R : List (List Nat)} {T : List Ent} {here h u : Nat} (F : Flip O Win m U turn c0 R ((here, h, u) :: T) here) :
    ∃ T', (∃ A, T = A ++ T') ∧ Flip O Win m U turn c0 (swap R u here h) T' h := by
  obtain ⟨g1, g2, g3, g4⟩ := F.good (here, h, u) List.mem_cons_self
  replace g1 : u < U := g1
  replace g2 : here ∈ rowAt R u := g2
  replace g3 : Win h u := g3
  have hl : u < R.length := by rw [F.valid.len]; exact g1
  have ch := F.chain
  obtain ⟨c1, c2, c3, c4, c5⟩ := id ch
  have ndr : (rowAt R u).Nodup := F.valid.nd g1
  have mem_er : ∀ t, t ∈ (rowAt R u).erase here ↔ t ≠ here ∧ t ∈ rowAt R u := fun t => ndr.mem_erase_iff
  have ownH : ∀ t ∈ (rowAt R u).erase here, O t ≠ O h := fun t ht q => by
    obtain ⟨n1, n2⟩ := (mem_er t).mp ht
    rcases g4 with z | z
    · exact n1 (map_inj_of (F.valid.own u g1) n2 g2 (q.trans z))
    · exact z t n2 q
  have valid' : Valid O Win m U (swap R u here h) := by
    refine F.valid.set g1 (fun t ht => ?_) ?_ ?_
    · rcases List.mem_append.mp ht with z | z
      · exact F.valid.win u g1 t ((mem_er t).mp z).2
      · rw [List.mem_singleton.mp z]; exact g3
    · rw [List.map_append, List.nodup_append]
      refine ⟨(F.valid.own u g1).sublist (List.erase_sublist.map O), by simp, ?_⟩
      intro a ha b hb q
      obtain ⟨t, ht, rfl⟩ := List.mem_map.mp ha
      have eb : b = O h := by simpa using hb
      exact ownH t ht (q.trans eb)
    · rw [List.length_append, List.length_erase_of_mem g2]
      have h8 := F.valid.cap u g1
      have h9 : 0 < (rowAt R u).length := List.length_pos_of_mem g2
      show (rowAt R u).length - 1 + 1 ≤ m
      omega
  have cnt' : ∀ t, occ (swap R u here h) t = c0 t + ind (t = h) := fun t => by
    have e1 := occ_set (R := R) (t := t) (r := (rowAt R u).erase here ++ [h]) hl
    have e2 := count_swap (y := h) (t := t) g2
    have e3 := F.cnt t
    show occ (R.set u ((rowAt R u).erase here ++ [h])) t = _
    omega
  -- the rest of the chain, from h on
  have main : ∀ T', (∃ A, T = A ++ T') → (∀ e ∈ T', e.2.1 ≠ h) → ∀ e ∈ T', e.2.2 < U ∧ e.1 ∈ rowAt (swap R u here h) e.2.2 ∧ Win e.2.1 e.2.2 ∧ (O e.2.1 = O e.1 ∨ ∀ y ∈ rowAt (swap R u here h) e.2.2, O y ≠ O e.2.1) := by
    rintro T' ⟨A, rfl⟩ hp e he
    have heT : e ∈ A ++ T' := List.mem_append_right _ he
    obtain ⟨k1, k2, k3, k4⟩ := F.good e (List.mem_cons_of_mem _ heT)
    by_cases hu : e.2.2 = u
    · have same : O e.2.1 = O e.1 := c5 e heT hu (hp e he)
      refine ⟨k1, ?_, k3, .inl same⟩
      rw [hu] at k2 ⊢
      unfold swap
      rw [rowAt_set_same hl]
      exact List.mem_append_left _ ((mem_er _).mpr ⟨c4 e heT, k2⟩)
    · refine ⟨k1, ?_, k3, ?_⟩
      · unfold swap; rw [rowAt_set_ne hu]; exact k2
      · unfold swap; rw [rowAt_set_ne hu]; exact k4
  rcases c2 with z | ⟨e, he, z⟩
  · exact ⟨[], ⟨T, by simp⟩, valid', cnt', trivial, (fun e he => absurd he (by simp)), .inl ⟨z, rfl⟩⟩
  · obtain ⟨A, B, rfl⟩ := List.append_of_mem he
    obtain ⟨x, h', u'⟩ := e
    have z : x = h := z
    subst z
    have chB : Chain O turn ((x, h', u') :: B) := Chain.suffix c1
    refine ⟨(x, h', u') :: B, ⟨A, rfl⟩, valid', cnt', chB, main _ ⟨A, rfl⟩ fun e he => ?_, .inr ⟨h', u', B, rfl⟩⟩
    rcases List.mem_cons.mp he with q | he
    · subst q
      -- the parent of x's own entry is not x
      show h' ≠ x
      intro q
      rcases chB.2.1 with z | ⟨f, hf, z⟩
      · exact chB.2.2.1 (q ▸ z)
      · exact chB.2.2.2.1 f hf (z.trans q)
    · exact Chain.parent chB e he
end FM
end

section
set_option linter.all false
namespace FM
theorem sm_front {n : Nat} {f : Nat → Nat} : sm (n + 1) f = f 0 + sm n (fun i => f (i + 1)) := by
  induction n with
  | zero => simp [sm]
  | succ n ih =>
    rw [show sm (n + 1 + 1) f = sm (n + 1) f + f (n + 1) from rfl, ih]
    simp only [sm]
    omega
theorem ls_rows {R : List (List Nat)} {f : List Nat → Nat} : ls R f = sm R.length (fun u => f (rowAt R u)) := by
  induction R with
  | nil => rfl
  | cons a R ih =>
    rw [ls_cons, List.length_cons, sm_front, ih]
    rfl
section
variable {O : Nat → Nat} {Win : Nat → Nat → Prop} {m U N turn : Nat} {R : List (List Nat)}
theorem Valid.occ_ind (v : Valid O Win m U R) (t : Nat) : occ R t = sm U (fun u => ind (t ∈ rowAt R u)) := by
  unfold occ
  rw [ls_rows, v.len]
  refine sm_congr fun u hu => ?_
  by_cases h : t ∈ rowAt R u
  · rw [ind_t h]
    have h1 := List.count_pos_iff.mpr h
    have h2 := (List.nodup_iff_count.mp (v.nd hu)) t
    omega
  · rw [ind_f h, List.count_eq_zero.mpr h]
/-- turns below n have a unit, the others none -/
def Upto (n : Nat) (R : List (List Nat)) : Prop := ∀ t, occ R t = ind (t < n)
theorem Upto.lt {n : Nat} (p : Upto n R) (v : Valid O Win m U R) {t u : Nat} (hu : u < U) (h : t ∈ rowAt R u) : t < n := by
  by_cases q : t < n
  · exact q
  · have e := p t
    rw [ind_f q, v.occ_ind] at e
    have : ∀ (f : Nat → Nat) (k : Nat), sm k f = 0 → ∀ i, i < k → f i = 0 := by
      intro f k
      induction k with
      | zero => intro _ i hi; omega
      | succ k ih =>
        intro h i hi
        simp only [sm] at h
        by_cases e : i = k
        · subst e; omega
        · exact ih (by omega) i (by omega)
    have z : ind (t ∈ rowAt R u) = 0 := this _ _ e u hu
    rw [ind_t h] at z
    cases z

def seenOf (turn : Nat) (T : List Ent) : List Nat := turn :: T.reverse.map (·.1)
theorem seen_push {turn x h u : Nat} {T : List Ent} : seenOf turn ((x, h, u) :: T) = seenOf turn T ++ [x] := by simp [seenOf]
theorem mem_seen {turn t : Nat} {T : List Ent} : t ∈ seenOf turn T ↔ t = turn ∨ ∃ e ∈ T, e.1 = t := by simp [seenOf]
theorem Chain.seen_nd : ∀ {T : List Ent}, Chain O turn T → (seenOf turn T).Nodup
  | [], _ => by simp [seenOf]
  | (x, h, u) :: T, c => by
    rw [seen_push, List.nodup_append]
    refine ⟨Chain.seen_nd c.1, by simp, fun a ha b hb q => ?_⟩
    have eb : b = x := by simpa using hb
    rw [q, eb] at ha
    rcases mem_seen.mp ha with z | ⟨e, he, z⟩
    · exact c.2.2.1 z
    · exact c.2.2.2.1 e he z
def Cov (O : Nat → Nat) (m : Nat) (R : List (List Nat)) (seen : List Nat) (s u : Nat) : Prop := s ∈ rowAt R u ∨ (∃ r ∈ rowAt R u, r ∈ seen ∧ O r = O s) ∨ (m ≤ (rowAt R u).length ∧ ∀ r ∈ rowAt R u, r ∈ seen)
theorem Cov.mono {seen seen' : List Nat} {s u : Nat} (c : Cov O m R seen s u) (h : ∀ t ∈ seen, t ∈ seen') : Cov O m R seen' s u := by
  rcases c with z | ⟨r, h1, h2, h3⟩ | ⟨h1, h2⟩
  · exact .inl z
  · exact .inr (.inl ⟨r, h1, h r h2, h3⟩)
  · exact .inr (.inr ⟨h1, fun r hr => h r (h2 r hr)⟩)
/-- an entry of the tree -/
def EntOk (O : Nat → Nat) (Win : Nat → Nat → Prop) (m U : Nat) (R : List (List Nat)) (x h u : Nat) : Prop :=
  u < U ∧ x ∈ rowAt R u ∧ h ∉ rowAt R u ∧ Win h u ∧ (O h = O x ∨ (m ≤ (rowAt R u).length ∧ ∀ y ∈ rowAt R u, O y ≠ O h))
/-- the search between two turns of its while -/
structure Bfs (O : Nat → Nat) (Win : Nat → Nat → Prop) (m U turn : Nat) (R : List (List Nat)) (done queue : List Nat) (T : List Ent) : Prop where
  eq : seenOf turn T = done ++ queue
  chain : Chain O turn T
  ent : ∀ e ∈ T, EntOk O Win m U R e.1 e.2.1 e.2.2
  par : ∀ e ∈ T, e.2.1 ∈ done
  closed : ∀ s ∈ done, ∀ u, u < U → Win s u → Cov O m R (seenOf turn T) s u
/-- the search while here is looked at; ws: its units that are through -/
structure Mid (O : Nat → Nat) (Win : Nat → Nat → Prop) (m U turn : Nat) (R : List (List Nat)) (done : List Nat) (here : Nat) (queue : List Nat) (T : List Ent) (ws : List Nat) : Prop where
  eq : seenOf turn T = done ++ here :: queue
  chain : Chain O turn T
  ent : ∀ e ∈ T, EntOk O Win m U R e.1 e.2.1 e.2.2
  par : ∀ e ∈ T, e.2.1 ∈ done ∨ e.2.1 = here
  closed : ∀ s ∈ done, ∀ u, u < U → Win s u → Cov O m R (seenOf turn T) s u
  cur : ∀ u ∈ ws, Cov O m R (seenOf turn T) here u
theorem Bfs.start : Bfs O Win m U turn R [] [turn] [] :=
  ⟨rfl, trivial, fun _ h => absurd h (by simp), fun _ h => absurd h (by simp), fun _ h => absurd h (by simp)⟩
theorem Bfs.pop {done queue : List Nat} {here : Nat} {T : List Ent} (b : Bfs O Win m U turn R done (here :: queue) T) : Mid O Win m U turn R done here queue T [] :=
  ⟨b.eq, b.chain, b.ent, fun e he => .inl (b.par e he), b.closed, fun _ h => absurd h (by simp)⟩
theorem Mid.unit {done queue ws : List Nat} {here now : Nat} {T : List Ent} (b : Mid O Win m U turn R done here queue T ws) (h : Cov O m R (seenOf turn T) here now) : Mid O Win m U turn R done here queue T (ws ++ [now]) :=
  ⟨b.eq, b.chain, b.ent, b.par, b.closed, fun u hu => by
    rcases List.mem_append.mp hu with z | z
    · exact b.cur u z
    · rw [List.mem_singleton.mp z]; exact h⟩
theorem Mid.done_ {done queue ws : List Nat} {here : Nat} {T : List Ent} (b : Mid O Win m U turn R done here queue T ws) (h : ∀ u, u < U → Win here u → u ∈ ws) : Bfs O Win m U turn R (done ++ [here]) queue T :=
  ⟨by rw [b.eq]; simp, b.chain, b.ent, fun e he => by
    rcases b.par e he with z | z
    · exact List.mem_append_left _ z
    · exact List.mem_append_right _ (by simp [z]), fun s hs u hu hw => by
    rcases List.mem_append.mp hs with z | z
    · exact b.closed s z u hu hw
    · have e : s = here := by simpa using z
      subst e
      exact b.cur u (h u hu hw)⟩
/-- a rival that was not seen yet -/
theorem Mid.push {done queue ws : List Nat} {here now other : Nat} {T : List Ent} (b : Mid O Win m U turn R done here queue T ws) (ok : EntOk O Win m U R other here now) (hn : other ∉ seenOf turn T) :
    Mid O Win m U turn R done here (queue ++ [other]) ((other, here, now) :: T) ws := by
  obtain ⟨k1, k2, k3, k4, k5⟩ := id ok
  have hmem : ∀ t ∈ seenOf turn T, t ∈ seenOf turn ((other, here, now) :: T) := fun t ht => by rw [seen_push]; exact List.mem_append_left _ ht
  have hin : here ∈ seenOf turn T := by rw [b.eq]; simp
  refine ⟨by rw [seen_push, b.eq]; simp, ⟨b.chain, ?_, ?_, ?_, ?_⟩, fun e he => ?_, fun e he => ?_, fun s hs u hu hw => (b.closed s hs u hu hw).mono hmem, fun u hu => (b.cur u hu).mono hmem⟩
  · rcases mem_seen.mp hin with z | z
    · exact .inl z
    · exact .inr z
  · intro q; exact hn (mem_seen.mpr (.inl q))
  · intro e he q; exact hn (mem_seen.mpr (.inr ⟨e, he, q⟩))
  · intro e he hu hne
    obtain ⟨p1, p2, p3, p4, p5⟩ := b.ent e he
    rw [hu] at p1 p2 p3 p4 p5
    rcases p5 with z | ⟨z1, z2⟩
    · exact z
    · rcases b.par e he with q | q
      · exfalso
        rcases b.closed e.2.1 q now p1 p4 with c | ⟨r, c1, c2, c3⟩ | ⟨c1, c2⟩
        · exact p3 c
        · exact z2 r c1 c3
        · exact hn (c2 other k2)
      · exact absurd q hne
  · rcases List.mem_cons.mp he with z | he
    · rw [z]; exact ok
    · exact b.ent e he
  · rcases List.mem_cons.mp he with z | he
    · rw [z]; exact .inr rfl
    · exact b.par e he
theorem Mid.here_mem {done queue ws : List Nat} {here : Nat} {T : List Ent} (b : Mid O Win m U turn R done here queue T ws) : here ∈ seenOf turn T := by rw [b.eq]; simp
/-- the flip begins: here gets a unit that has room -/
theorem Mid.flip {done queue ws : List Nat} {here now : Nat} {T : List Ent} {c0 : Nat → Nat} (b : Mid O Win m U turn R done here queue T ws) (v : Valid O Win m U R) (hc : ∀ t, occ R t = c0 t) (hnow : now < U) (hw : Win here now)
    (hroom : (rowAt R now).length < m) (hno : ∀ y ∈ rowAt R now, O y ≠ O here) : ∃ T', (∃ A, T = A ++ T') ∧ Flip O Win m U turn c0 (R.set now (rowAt R now ++ [here])) T' here := by
  have hl : now < R.length := by rw [v.len]; exact hnow
  have valid' : Valid O Win m U (R.set now (rowAt R now ++ [here])) := by
    refine v.set hnow (fun t ht => ?_) ?_ ?_
    · rcases List.mem_append.mp ht with z | z
      · exact v.win now hnow t z
      · rw [List.mem_singleton.mp z]; exact hw
    · rw [List.map_append, List.nodup_append]
      refine ⟨v.own now hnow, by simp, ?_⟩
      intro a ha c hc q
      obtain ⟨t, ht, rfl⟩ := List.mem_map.mp ha
      have ec : c = O here := by simpa using hc
      exact hno t ht (q.trans ec)
    · rw [List.length_append]; simp; omega
  have cnt' : ∀ t, occ (R.set now (rowAt R now ++ [here])) t = c0 t + ind (t = here) := fun t => by
    have e1 := occ_set (R := R) (t := t) (r := rowAt R now ++ [here]) hl
    have e2 : (rowAt R now ++ [here]).count t = (rowAt R now).count t + ind (t = here) := by
      rw [List.count_append]
      by_cases h : t = here
      · subst h; simp [ind]
      · rw [ind_f h, List.count_eq_zero.mpr (by simp [h] : t ∉ [here])]
    have e3 := hc t
    omega
  have main : ∀ e ∈ T, e.2.2 < U ∧ e.1 ∈ rowAt (R.set now (rowAt R now ++ [here])) e.2.2 ∧ Win e.2.1 e.2.2 ∧ (O e.2.1 = O e.1 ∨ ∀ y ∈ rowAt (R.set now (rowAt R now ++ [here])) e.2.2, O y ≠ O e.2.1) := by
    intro e he
    obtain ⟨p1, p2, p3, p4, p5⟩ := b.ent e he
    by_cases hu : e.2.2 = now
    · rw [hu] at p1 p2 p3 p4 p5 ⊢
      rw [rowAt_set_same hl]
      refine ⟨p1, List.mem_append_left _ p2, p4, ?_⟩
      rcases p5 with z | ⟨z, _⟩
      · exact .inl z
      · omega
    · rw [rowAt_set_ne hu]
      refine ⟨p1, p2, p4, ?_⟩
      rcases p5 with z | ⟨_, z⟩
      · exact .inl z
      · exact .inr z
  rcases mem_seen.mp b.here_mem with z | ⟨e, he, z⟩
  · exact ⟨[], ⟨T, by simp⟩, valid', cnt', trivial, (fun e he => absurd he (by simp)), .inl ⟨z, rfl⟩⟩
  · obtain ⟨A, B, rfl⟩ := List.append_of_mem he
    obtain ⟨x, h', u'⟩ := e
    have z : x = here := z
    subst z
    exact ⟨(x, h', u') :: B, ⟨A, rfl⟩, valid', cnt', Chain.suffix b.chain, fun e he => main e (List.mem_append_right _ he), .inr ⟨h', u', B, rfl⟩⟩
/-- what the fluid schedule gives -/
def Fluid (N U m : Nat) (O : Nat → Nat) (Win : Nat → Nat → Prop) : Prop :=
  ∃ (w : Nat → Nat → Nat) (Lw : Nat), 0 < Lw ∧ (∀ t, t < N → sm U (w t) = Lw) ∧ (∀ u, u < U → ∀ k, sm N (fun t => ind (O t = k) * w t u) ≤ Lw) ∧ (∀ u, u < U → sm N (fun t => w t u) ≤ m * Lw) ∧ ∀ t, t < N → ∀ u, u < U → 0 < w t u → Win t u
theorem Bfs.seen_lt {done queue : List Nat} {T : List Ent} (b : Bfs O Win m U turn R done queue T) (v : Valid O Win m U R) (p : Upto turn R) (ht : turn < N) : ∀ s ∈ seenOf turn T, s < N := fun s hs => by
  rcases mem_seen.mp hs with z | ⟨e, he, z⟩
  · omega
  · obtain ⟨p1, p2, _⟩ := b.ent e he
    have := p.lt v p1 p2
    omega
theorem Mid.seen_lt {done queue ws : List Nat} {here : Nat} {T : List Ent} (b : Mid O Win m U turn R done here queue T ws) (v : Valid O Win m U R) (p : Upto turn R) (ht : turn < N) : ∀ s ∈ seenOf turn T, s < N := fun s hs => by
  rcases mem_seen.mp hs with z | ⟨e, he, z⟩
  · omega
  · obtain ⟨p1, p2, _⟩ := b.ent e he
    have := p.lt v p1 p2
    omega
/-- the search never ends without a unit -/
theorem Bfs.never {done : List Nat} {T : List Ent} (b : Bfs O Win m U turn R done [] T) (v : Valid O Win m U R) (p : Upto turn R) (ht : turn < N) (f : Fluid N U m O Win) : False := by
  obtain ⟨w, Lw, hL, h1, h2, h3, h4⟩ := f
  have ed : seenOf turn T = done := by rw [b.eq]; simp
  have nd := b.chain.seen_nd
  refine hall (S := seenOf turn T) (R := rowAt R) (w := w) hL h1 h2 h3 h4 nd (b.seen_lt v p ht) (fun u hu => v.nd hu) ?_ (fun s hs u hu hw => ?_)
  · have e1 : ls (seenOf turn T) (fun s => sm U (fun u => ind (s ∈ rowAt R u))) = ls (seenOf turn T) (fun s => ind (s < turn)) := ls_congr fun s _ => by rw [← v.occ_ind, p s]
    rw [e1]
    show ls (turn :: T.reverse.map (·.1)) _ < (turn :: T.reverse.map (·.1)).length
    rw [ls_cons, ind_f (Nat.lt_irrefl _), List.length_cons]
    have : ls (T.reverse.map (·.1)) (fun s => ind (s < turn)) ≤ ls (T.reverse.map (·.1)) (fun _ => 1) := ls_le fun _ _ => ind_le
    rw [ls_const] at this
    omega
  · exact b.closed s (by rw [← ed]; exact hs) u hu hw
theorem nodup_len {n : Nat} {l : List Nat} (nd : l.Nodup) (h : ∀ a ∈ l, a < n) : l.length ≤ n := by
  rw [length_ls, ls_nodup nd h]
  refine Nat.le_trans (sm_le (g := fun _ => 1) fun i _ => ?_) (by rw [sm_const]; omega)
  rw [Nat.mul_one]
  exact ind_le
theorem Bfs.done_le {done queue : List Nat} {T : List Ent} (b : Bfs O Win m U turn R done queue T) (v : Valid O Win m U R) (p : Upto turn R) (ht : turn < N) : done.length + queue.length ≤ N := by
  have h := nodup_len b.chain.seen_nd (b.seen_lt v p ht)
  rw [b.eq, List.length_append] at h
  exact h
theorem Mid.done_le {done queue ws : List Nat} {here : Nat} {T : List Ent} (b : Mid O Win m U turn R done here queue T ws) (v : Valid O Win m U R) (p : Upto turn R) (ht : turn < N) : done.length + 1 + queue.length ≤ N := by
  have h := nodup_len b.chain.seen_nd (b.seen_lt v p ht)
  rw [b.eq, List.length_append, List.length_cons] at h
  omega
/-- the flip is through -/
theorem Flip.upto {T : List Ent} {R' R0 : List (List Nat)} (F : Flip O Win m U turn (fun t => ind (t < turn)) R' T turn) : Upto (turn + 1) R' := fun t => by
  rw [F.cnt t]
  by_cases h : t < turn
  · rw [ind_t h, ind_f (by omega), ind_t (by omega)]
  · by_cases h2 : t = turn
    · rw [ind_f h, ind_t h2, ind_t (by omega)]
    · rw [ind_f h, ind_f h2, ind_f (by omega)]
end
end FM
end

section
set_option linter.all false
namespace FM
theorem ls_getD {α : Type} {l : List α} {d : α} {F : α → Nat} : ls l F = sm l.length (fun i => F (l.getD i d)) := by
  induction l with
  | nil => rfl
  | cons a l ih => rw [ls_cons, List.length_cons, sm_front, ih]; rfl
theorem sm_one {n k : Nat} {a : Nat → Nat} (h : k < n) : sm n (fun i => ind (i = k) * a i) = a k := by
  induction n with
  | zero => omega
  | succ n ih =>
    simp only [sm]
    by_cases e : k = n
    · subst e
      rw [ind_t rfl, sm_congr (g := fun _ => 0) fun i hi => by rw [ind_f (by omega)]; simp, sm_zero]; omega
    · rw [ih (by omega), ind_f (fun q => e q.symm)]; omega
theorem sm_none {n k : Nat} {a : Nat → Nat} (h : n ≤ k) : sm n (fun i => ind (i = k) * a i) = 0 := by
  rw [sm_congr (g := fun _ => 0) fun i hi => by rw [ind_f (by omega)]; simp, sm_zero]
abbrev PR := List (Nat × Nat)
def pc (ps : PR) (k : Nat) : Nat := (ps.getD k (0, 0)).1
def pg (ps : PR) (k : Nat) : Nat := (ps.getD k (0, 0)).2
def cntOf (L : Nat) (ps : PR) (k : Nat) : Nat := L / pg ps k * pc ps k
def turnsTo (L : Nat) (ps : PR) (i : Nat) : List (Nat × Nat) := (List.range i).flatMap fun k => (List.range (cntOf L ps k)).map fun j => (k, j)
theorem turnsTo_succ (L : Nat) (ps : PR) (i : Nat) : turnsTo L ps (i + 1) = turnsTo L ps i ++ (List.range (cntOf L ps i)).map fun j => (i, j) := by
  unfold turnsTo
  rw [List.range_succ, List.flatMap_append]
  simp
theorem ls_turns {L : Nat} {ps : PR} {n : Nat} {F : Nat × Nat → Nat} : ls (turnsTo L ps n) F = sm n (fun k => sm (cntOf L ps k) (fun j => F (k, j))) := by
  unfold turnsTo
  rw [ls_flatMap, ls_range]
  refine sm_congr fun k _ => ?_
  rw [ls_map, ls_range]
/-- the window of turn j of a pair -/
def lo (c g j : Nat) : Nat := j * g / c
def hi (c g j : Nat) : Nat := ((j + 1) * g + (c - 1)) / c
def ownT (L : Nat) (ps : PR) (t : Nat) : Nat := ((turnsTo L ps ps.length).getD t (0, 0)).1
def ixT (L : Nat) (ps : PR) (t : Nat) : Nat := ((turnsTo L ps ps.length).getD t (0, 0)).2
def winT (L : Nat) (ps : PR) (t u : Nat) : Prop := lo (pc ps (ownT L ps t)) (pg ps (ownT L ps t)) (ixT L ps t) ≤ u ∧ u < hi (pc ps (ownT L ps t)) (pg ps (ownT L ps t)) (ixT L ps t)
def nT (L : Nat) (ps : PR) : Nat := (turnsTo L ps ps.length).length
/-- the pairs suit the cycle -/
structure Suits (L : Nat) (ps : PR) : Prop where
  pos : 0 < L
  c0 : ∀ k, k < ps.length → 0 < pc ps k
  cg : ∀ k, k < ps.length → pc ps k ≤ pg ps k
  dv : ∀ k, k < ps.length → L / pg ps k * pg ps k = L
section
variable {L : Nat} {ps : PR}
theorem Suits.g0 (s : Suits L ps) {k : Nat} (h : k < ps.length) : 0 < pg ps k := Nat.lt_of_lt_of_le (s.c0 k h) (s.cg k h)
theorem mem_turns {k j n : Nat} : (k, j) ∈ turnsTo L ps n ↔ k < n ∧ j < cntOf L ps k := by
  unfold turnsTo
  simp only [List.mem_flatMap, List.mem_range, List.mem_map]
  constructor
  · rintro ⟨k', h1, j', h2, h3⟩
    cases h3
    exact ⟨h1, h2⟩
  · rintro ⟨h1, h2⟩
    exact ⟨k, h1, j, h2, rfl⟩
theorem turn_mem {t : Nat} (h : t < nT L ps) : ownT L ps t < ps.length ∧ ixT L ps t < cntOf L ps (ownT L ps t) := by
  have e : (turnsTo L ps ps.length).getD t (0, 0) ∈ turnsTo L ps ps.length := by
    unfold nT at h
    rw [List.getD_eq_getElem?_getD, List.getElem?_eq_getElem h]
    exact List.getElem_mem h
  have e2 : ((ownT L ps t, ixT L ps t) : Nat × Nat) ∈ turnsTo L ps ps.length := e
  exact mem_turns.mp e2
theorem sm_turns {F : Nat → Nat → Nat} : sm (nT L ps) (fun t => F (ownT L ps t) (ixT L ps t)) = sm ps.length (fun k => sm (cntOf L ps k) (fun j => F k j)) := by
  rw [← ls_turns (F := fun x => F x.1 x.2), ls_getD (d := ((0, 0) : Nat × Nat))]
  rfl
theorem lo_le_of {c g j u : Nat} (h : 0 < ov g c j u) (hc : 0 < c) : lo c g j ≤ u ∧ u < hi c g j := by
  unfold ov at h
  have h1 : j * g < (u + 1) * c := by omega
  have h2 : u * c < (j + 1) * g := by omega
  refine ⟨?_, ?_⟩
  · unfold lo
    exact Nat.le_of_lt_succ ((Nat.div_lt_iff_lt_mul hc).mpr h1)
  · unfold hi
    refine Nat.lt_of_succ_le ((Nat.le_div_iff_mul_le hc).mpr ?_)
    have e : (u + 1) * c = u * c + c := Nat.succ_mul _ _
    have e2 : u.succ * c = u * c + c := Nat.succ_mul _ _
    omega
theorem fluid {m : Nat} (s : Suits L ps) (hm : sm ps.length (fun k => cntOf L ps k) ≤ m * L) : Fluid (nT L ps) L m (ownT L ps) (winT L ps) := by
  refine ⟨fun t u => L / pg ps (ownT L ps t) * ov (pg ps (ownT L ps t)) (pc ps (ownT L ps t)) (ixT L ps t) u, L, s.pos, fun t ht => ?_, fun u hu k => ?_, fun u hu => ?_, fun t ht u hu hw => ?_⟩
  · obtain ⟨h1, h2⟩ := turn_mem ht
    rw [sm_mul, ov_units_all (M := L / pg ps (ownT L ps t)) (s.dv _ h1).symm h2, s.dv _ h1]
  · have e := sm_turns (L := L) (ps := ps) (F := fun k' j => ind (k' = k) * (L / pg ps k' * ov (pg ps k') (pc ps k') j u))
    rw [e]
    have e2 : sm ps.length (fun k' => sm (cntOf L ps k') (fun j => ind (k' = k) * (L / pg ps k' * ov (pg ps k') (pc ps k') j u))) = sm ps.length (fun k' => ind (k' = k) * cntOf L ps k') := by
      refine sm_congr fun k' hk' => ?_
      rw [sm_mul, sm_mul]
      unfold cntOf
      rw [ov_turns_all (s.dv k' hk').symm hu]
    rw [e2]
    by_cases hk : k < ps.length
    · rw [sm_one hk]
      unfold cntOf
      calc L / pg ps k * pc ps k ≤ L / pg ps k * pg ps k := Nat.mul_le_mul_left _ (s.cg k hk)
        _ = L := s.dv k hk
    · rw [sm_none (by omega)]; omega
  · have e := sm_turns (L := L) (ps := ps) (F := fun k' j => L / pg ps k' * ov (pg ps k') (pc ps k') j u)
    rw [e]
    refine Nat.le_trans (Nat.le_of_eq ?_) hm
    refine sm_congr fun k' hk' => ?_
    rw [sm_mul]
    unfold cntOf
    rw [ov_turns_all (s.dv k' hk').symm hu]
  · obtain ⟨h1, h2⟩ := turn_mem ht
    exact lo_le_of (Nat.pos_of_mul_pos_left hw) (s.c0 _ h1)
theorem hi_le {k j : Nat} (s : Suits L ps) (hk : k < ps.length) (hj : j < cntOf L ps k) : hi (pc ps k) (pg ps k) j ≤ L := by
  unfold hi
  have c0 := s.c0 k hk
  refine Nat.le_of_lt_succ ((Nat.div_lt_iff_lt_mul c0).mpr ?_)
  have h1 : (j + 1) * pg ps k ≤ cntOf L ps k * pg ps k := Nat.mul_le_mul_right _ hj
  have h2 : cntOf L ps k * pg ps k = L * pc ps k := by
    unfold cntOf
    rw [Nat.mul_right_comm, s.dv k hk]
  have h3 : (L + 1) * pc ps k = L * pc ps k + pc ps k := Nat.succ_mul _ _
  have h4 : L.succ * pc ps k = L * pc ps k + pc ps k := Nat.succ_mul _ _
  omega
theorem win_lt {t u : Nat} (s : Suits L ps) (ht : t < nT L ps) (h : winT L ps t u) : u < L := by
  obtain ⟨h1, h2⟩ := turn_mem ht
  exact Nat.lt_of_lt_of_le h.2 (hi_le s h1 h2)
/-- a turn's window lies in its gap -/
theorem win_seg {t u : Nat} (s : Suits L ps) (ht : t < nT L ps) (h : winT L ps t u) :
    ixT L ps t / pc ps (ownT L ps t) * pg ps (ownT L ps t) ≤ u ∧ u < ixT L ps t / pc ps (ownT L ps t) * pg ps (ownT L ps t) + pg ps (ownT L ps t) := by
  obtain ⟨h1, h2⟩ := turn_mem ht
  obtain ⟨w1, w2⟩ := h
  generalize ownT L ps t = k at *
  generalize ixT L ps t = j at *
  have c0 := s.c0 k h1
  have ej : pc ps k * (j / pc ps k) + j % pc ps k = j := Nat.div_add_mod _ _
  have hr : j % pc ps k < pc ps k := Nat.mod_lt _ c0
  generalize j / pc ps k = q at *
  generalize j % pc ps k = r at *
  generalize pc ps k = c at *
  generalize pg ps k = g at *
  unfold lo at w1
  unfold hi at w2
  constructor
  · refine Nat.le_trans ((Nat.le_div_iff_mul_le c0).mpr ?_) w1
    calc q * g * c = (c * q) * g := by rw [Nat.mul_right_comm, Nat.mul_comm q c]
      _ ≤ j * g := Nat.mul_le_mul_right _ (by omega)
  · refine Nat.lt_of_lt_of_le w2 (Nat.le_of_lt_succ ((Nat.div_lt_iff_lt_mul c0).mpr ?_))
    have e1 : (j + 1) * g ≤ (c * q + c) * g := Nat.mul_le_mul_right _ (by omega)
    have e2 : (c * q + c) * g = (q * g + g) * c := by
      rw [Nat.add_mul, Nat.add_mul, Nat.mul_comm c q, Nat.mul_right_comm, Nat.mul_comm c g]
    have e3 : (q * g + g).succ * c = (q * g + g) * c + c := Nat.succ_mul _ _
    omega
theorem sm_seg {n a g : Nat} {f : Nat → Nat} (h : a + g ≤ n) : sm g (fun i => f (a + i)) = sm n (fun u => ind (a ≤ u ∧ u < a + g) * f u) := by
  induction g with
  | zero =>
    rw [sm_congr (n := n) (g := fun _ => 0) fun i _ => by rw [ind_f (by omega)]; simp, sm_zero]
    rfl
  | succ g ih =>
    simp only [sm]
    rw [ih (by omega), ← sm_one (n := n) (k := a + g) (a := f) (by omega), ← sm_add]
    refine sm_congr fun u _ => ?_
    by_cases h1 : u = a + g
    · rw [ind_f (p := a ≤ u ∧ u < a + g) (by omega), ind_t h1, ind_t (by omega)]; omega
    · rw [ind_f h1]
      by_cases h2 : a ≤ u ∧ u < a + g
      · rw [ind_t h2, ind_t (by omega)]; omega
      · rw [ind_f h2, ind_f (by omega)]; omega
theorem div_count {c M q : Nat} (hc : 0 < c) (hq : q < M) : sm (M * c) (fun j => ind (j / c = q)) = c := by
  have e : sm (M * c) (fun j => ind (j / c = q)) = sm (M * c) (fun j => ind (q * c ≤ j ∧ j < q * c + c) * 1) := sm_congr fun j _ => by
    rw [Nat.mul_one]
    by_cases h : j / c = q
    · rw [ind_t h]
      have h1 : q * c ≤ j := by rw [← h]; exact Nat.div_mul_le_self _ _
      have h2 : j < q * c + c := by
        have := Nat.lt_div_mul_add hc (a := j)
        rw [h] at this; exact this
      rw [ind_t ⟨h1, h2⟩]
    · rw [ind_f h, ind_f]
      rintro ⟨h1, h2⟩
      apply h
      have a1 : q ≤ j / c := (Nat.le_div_iff_mul_le hc).mpr h1
      have a2 : j / c < q + 1 := (Nat.div_lt_iff_lt_mul hc).mpr (by rw [Nat.succ_mul]; exact h2)
      omega
  have h3 : q * c + c ≤ M * c := by rw [← Nat.succ_mul]; exact Nat.mul_le_mul_right _ hq
  rw [e, ← sm_seg (f := fun _ => 1) h3, sm_const]; omega
/-- in each gap every index runs as often as its cost -/
theorem seg_count {m k q : Nat} {R : List (List Nat)} (s : Suits L ps) (v : Valid (ownT L ps) (winT L ps) m L R) (p : Upto (nT L ps) R) (hk : k < ps.length) (hq : q < L / pg ps k) :
    sm (pg ps k) (fun i => ind (k ∈ (rowAt R (q * pg ps k + i)).map (ownT L ps))) = pc ps k := by
  have hseg : q * pg ps k + pg ps k ≤ L := by
    have : (q + 1) * pg ps k ≤ L / pg ps k * pg ps k := Nat.mul_le_mul_right _ hq
    rw [s.dv k hk, Nat.succ_mul] at this
    exact this
  have e1 : ∀ u, u < L → ind (k ∈ (rowAt R u).map (ownT L ps)) = sm (nT L ps) (fun t => ind (ownT L ps t = k) * ind (t ∈ rowAt R u)) := fun u hu => by
    have e2 : sm (nT L ps) (fun t => ind (ownT L ps t = k) * ind (t ∈ rowAt R u)) = ls (rowAt R u) (fun t => ind (ownT L ps t = k)) := by
      rw [ls_nodup (v.nd hu) fun t ht => p.lt v hu ht]
      exact sm_congr fun t _ => Nat.mul_comm _ _
    rw [e2]
    clear e2
    have ow := v.own u hu
    generalize rowAt R u = l at *
    induction l with
    | nil => rw [ls_nil, ind_f (by simp)]
    | cons a l ih =>
      obtain ⟨n1, n2⟩ := List.nodup_cons.mp (show (ownT L ps a :: l.map (ownT L ps)).Nodup from ow)
      rw [ls_cons, ← ih n2]
      by_cases h : ownT L ps a = k
      · rw [ind_t h, ind_t (by rw [List.map_cons, h]; exact List.mem_cons_self), ind_f (by rw [← h]; exact n1)]
      · rw [ind_f h]
        by_cases h2 : k ∈ l.map (ownT L ps)
        · rw [ind_t h2, ind_t (by rw [List.map_cons]; exact List.mem_cons_of_mem _ h2)]
        · rw [ind_f h2, ind_f]
          rw [List.map_cons]
          intro z
          rcases List.mem_cons.mp z with z | z
          · exact h z.symm
          · exact h2 z
  rw [sm_congr fun i hi => e1 (q * pg ps k + i) (by omega), sm_comm]
  have e3 : ∀ t, t < nT L ps → sm (pg ps k) (fun i => ind (ownT L ps t = k) * ind (t ∈ rowAt R (q * pg ps k + i))) = ind (ownT L ps t = k) * ind (ixT L ps t / pc ps (ownT L ps t) = q) := fun t ht => by
    rw [sm_mul]
    by_cases ho : ownT L ps t = k
    · rw [ind_t ho, Nat.one_mul, Nat.one_mul, sm_seg (n := L) (f := fun u => ind (t ∈ rowAt R u)) hseg]
      have tot := p t
      rw [v.occ_ind, ind_t ht] at tot
      have hin : ∀ u, u < L → t ∈ rowAt R u → ixT L ps t / pc ps (ownT L ps t) * pg ps k ≤ u ∧ u < ixT L ps t / pc ps (ownT L ps t) * pg ps k + pg ps k := fun u hu hm => by
        have z := win_seg s ht (v.win u hu t hm)
        rw [show pg ps (ownT L ps t) = pg ps k by rw [ho]] at z
        exact z
      by_cases hqq : ixT L ps t / pc ps (ownT L ps t) = q
      · rw [ind_t hqq, ← tot]
        refine sm_congr fun u hu => ?_
        by_cases hm : t ∈ rowAt R u
        · have z := hin u hu hm
          rw [hqq] at z
          rw [ind_t z, ind_t hm]
        · rw [ind_f hm]; simp
      · rw [ind_f hqq, sm_congr (g := fun _ => 0) fun u hu => ?_, sm_zero]
        by_cases hm : t ∈ rowAt R u
        · have z := hin u hu hm
          rw [ind_f, Nat.zero_mul]
          rintro ⟨y1, y2⟩
          apply hqq
          generalize ixT L ps t / pc ps (ownT L ps t) = q' at *
          have g0 := s.g0 hk
          rcases Nat.lt_trichotomy q' q with a | a | a
          · have : (q' + 1) * pg ps k ≤ q * pg ps k := Nat.mul_le_mul_right _ a
            rw [Nat.succ_mul] at this
            omega
          · exact a
          · have : (q + 1) * pg ps k ≤ q' * pg ps k := Nat.mul_le_mul_right _ a
            rw [Nat.succ_mul] at this
            omega
        · rw [ind_f hm]; simp
    · rw [ind_f ho]; simp
  rw [sm_congr e3]
  have e4 := sm_turns (L := L) (ps := ps) (F := fun k' j => ind (k' = k) * ind (j / pc ps k' = q))
  rw [e4, sm_congr (g := fun k' => ind (k' = k) * sm (cntOf L ps k') (fun j => ind (j / pc ps k' = q))) fun k' _ => sm_mul, sm_one hk]
  exact div_count (s.c0 k hk) hq
end
end FM
end

section
set_option Elab.async false
set_option linter.all false
set_option maxRecDepth 100000
set_option maxHeartbeats 2000000
/-! Generator expressions in all(..), sum(..), their element a term of the layer: 1, the generator's own context. -/
namespace Gx
open PySem PySem.Spec PyProof.Rows L2
/-- around the generator's code, woken by a built-in that X.A calls -/
abbrev gA (A : Around) (elt tg iter : PySem.Expr) (scope : Scope) (pos : Pos) (it : Value) (genv : Env) : Around := (A.in1.in1).over (.compLoop (.GeneratorExp elt [⟨tg, iter, [], 0⟩] scope pos) 0 it .none genv) []
section
variable {A : Around} {elt tg iter : PySem.Expr} {scope : Scope} {pos : Pos} {it : Value} {genv : Env}
theorem gA_handled : (gA A elt tg iter scope pos it genv).handled = A.handled := rfl
theorem gA_frames {l : List Env} (h : A.frames = some l) : (gA A elt tg iter scope pos it genv).frames = some (genv :: l) := by
  show pushEnvs [genv] (pushEnvs (envsOf []) A.frames) = _
  rw [h]; rfl
theorem gA_depth : (gA A elt tg iter scope pos it genv).depth = A.depth + 1 := by
  first | rfl | simp [gA, Around.over, Around.in1, Code.weight, Code.isCreation, Code.isGuard, Code.isCaller, Code.frames, Code.isFrame, frameCount]
theorem gA_units : (gA A elt tg iter scope pos it genv).units = A.units + 5 := by
  first | rfl | simp [gA, Around.over, Around.in1, Code.cUnits, Code.frames, Code.isFrame, unitsOf]
theorem gA_room {k : Nat} (r : Room (k + 1) A) : Room k (gA A elt tg iter scope pos it genv) :=
  ⟨r.hd, by have := r.dp; rw [gA_depth]; omega, by have := r.un; rw [gA_units]; omega⟩
end
/-- the context of the generator's code -/
abbrev gen (X : Cx) (A' : Around) (s : Shared) (H : Hp) (genv : Env) (fp : List Addr) (pn : List (Addr × Obj)) : Cx :=
  { X with A := A', s_0 := s, H_0 := H, env := genv, outer := X.stack, stack := genv :: X.stack, ex := fp, fn := fun _ => false, pn := pn, xe := fun _ _ => False }
structure GenOk (N : List Str) (sc scope : Scope) (own : List (Str × Nat)) : Prop where
  blk : BlkOk N sc scope own
  co : scope.isCoroutine = false
  cell : ∀ y ∈ scope.names, y.2 ≠ .cell
  dot : scope.names.lookup (".0" : Str) = some NameKind.local
abbrev gEnv (X : Cx) (scope : Scope) (C : Addr) (code : Value) : Env := genEnv scope (cloFrom X.env.cells scope.names []) C code builtinsNs X.env
section
variable {X : Cx} {pins : List (Addr × Obj)} {σ : L2.St} {H : Hp} {s : Shared}
theorem gen_start {scope : Scope} {own : List (Str × Nat)} {fp : List Addr} {A' : Around} {code it : Value} {h' : Heap} {go : Obj} {gs : GenState} {tk : Nat} (I : Inv X pins σ H s) (ok : GenOk X.N X.env.scope scope own) (hN : X.N.Nodup)
    (hfp : ∀ b ∈ fp, FpOk X pins H b ∧ b < s.heap.objs.size) (hA : A'.handled = X.A.handled) (hfr : A'.frames = some (gEnv X scope s.heap.objs.size code :: X.stack))
    (hn' : h'.Ns s.heap.objs.size (fun y => if y = ".0" then some it else none)) (hs' : Heap.SameBut s.heap.objs.size (s.heap.push { cls := .type "frame", data := .dict #[] }) h') (hgo : ∀ v, go.data ≠ .cell v) (hgf : ∀ h : Heap, (h.push go).get? h.objs.size = some go) (hb : gs.bare = true) :
    Inv (gen X A' s H (gEnv X scope s.heap.objs.size code) fp [(h'.objs.size, go)]) [] (wipe σ (own.map (·.2))) H { s with gens := s.gens.push gs, toks := tk, heap := h'.push go } := by
  have hfree : ∀ y ∈ scope.names, y.2 = .free → ∃ c, X.env.cells.lookup y.1 = some c := fun y hy e => by
    rcases ok.blk.free y hy e with k | k
    · exact I.ok.has _ (.inl k)
    · exact I.ok.has _ (.inr k)
  have hsz : h'.objs.size = s.heap.objs.size + 1 := by rw [hs'.1, Heap.size_push]
  have keep' : ∀ b o, s.heap.get? b = some o → h'.get? b = some o := fun b o e => hs'.extBut b o (Nat.ne_of_lt (Heap.lt_size e)) (Heap.get?_push_of_some _ e)
  have kp : ∀ b o, s.heap.get? b = some o → (h'.push go).get? b = some o := fun b o e => Heap.get?_push_of_some _ (keep' b o e)
  generalize hcenv : gEnv X scope s.heap.objs.size code = cenv at hfr ⊢
  have hL : cenv.locals = s.heap.objs.size := by rw [← hcenv]; rfl
  have hcl : cenv.cells = cloFrom X.env.cells scope.names [] := by rw [← hcenv]; rfl
  have hsc : cenv.scope = scope := by rw [← hcenv]; rfl
  have cm : ∀ {y c}, (y, c) ∈ cloFrom X.env.cells scope.names [] → X.env.cells.lookup y = some c ∧ c < s.heap.objs.size := fun {y c} hm => by
    rcases cloFrom_mem hm with hm | ⟨h1, rfl⟩
    · cases hm
    · obtain ⟨c, hc⟩ := hfree _ h1 rfl
      rw [hc]
      obtain ⟨w, z⟩ := I.cell _ _ hc
      exact ⟨rfl, z.lt⟩
  have mem : ∀ {y c}, cenv.cells.lookup y = some c → X.env.cells.lookup y = some c ∧ c < s.heap.objs.size := fun {y c} e => by
    rw [hcl] at e
    exact cm (PySem.mem_of_lookup e)
  have look : ∀ {y}, scope.names.lookup y = some .free → ∃ c, cenv.cells.lookup y = some c ∧ X.env.cells.lookup y = some c := fun {y} hl => by
    have hy : (y, NameKind.free) ∈ scope.names := PySem.mem_of_lookup hl
    obtain ⟨c', e'⟩ := mem_lookup (cloFrom_has (cells := X.env.cells) (acc := []) hy)
    rw [← hcl] at e'
    exact ⟨c', e', (mem e').1⟩
  have nocell : ∀ y, scope.names.lookup y ≠ some .cell := fun y z => ok.cell _ (PySem.mem_of_lookup z) rfl
  have young : ∀ b, s.heap.objs.size ≤ b → b ∉ frs X.stack := fun b hb hm => by
    rcases List.mem_cons.mp (I.stkSub b hm) with z | z
    · rw [z] at hb
      exact absurd (Nat.lt_of_lt_of_le I.lt hb) (Nat.lt_irrefl _)
    · exact I.nofs hb z
  have okB : (gen X A' s H cenv fp [(h'.objs.size, go)]).Ok := by
    refine ⟨I.ok.mod, by show cenv.scope.kind = _; rw [hsc]; exact ok.blk.kind, by show cenv.globals = _; rw [← hcenv]; exact I.ok.glob, by show cenv.builtins = _; rw [← hcenv]; rfl, by show s.heap.objs.size ≤ cenv.locals; rw [hL]; exact Nat.le_refl _,
      fun y z c e1 e2 => ?_, fun y hy => ?_, fun y c z e => ?_, fun z => hA.trans (I.ok.hd z), hfr, .inr ⟨rfl, by show cenv.frame = some cenv.locals; rw [← hcenv]; rfl⟩, fun b hb => ⟨?_, fun y c e z => ?_⟩, I.bs, Nat.le_trans I.ok.bsz I.sz, fun b o e hb => ?_, fun b hb z => ?_, I.stack, I.stkFree⟩
    · exact I.ok.inj y z c (mem e1).1 (mem e2).1
    · show ∃ c, cenv.cells.lookup y = some c
      rcases hy with hy | hy
      · have hy : cenv.scope.names.lookup y = some .cell := hy
        rw [hsc] at hy
        exact absurd hy (nocell y)
      · have hy : cenv.scope.names.lookup y = some .free := hy
        rw [hsc] at hy
        obtain ⟨c, h1, _⟩ := look hy
        exact ⟨c, h1⟩
    · exact absurd (show false = true from z) (by decide)
    · show b ≠ cenv.locals
      rw [hL]; exact Nat.ne_of_lt (hfp b hb).2
    · exact (hfp b hb).1.2.2.2.2.1 y c (mem (show cenv.cells.lookup y = some c from e)).1 z
    · rcases (hfp b hb).1.2.2.2.1 with z | z
      · exact I.ok.noex b o e z
      · exact absurd (Nat.lt_of_lt_of_le (Heap.lt_size e) (Nat.le_trans I.ok.bsz z)) (Nat.lt_irrefl _)
    · rcases List.mem_cons.mp (I.stkSub b z) with z | z
      · exact (hfp b hb).1.2.1 z
      · exact (hfp b hb).1.2.2.1 z
  refine ⟨okB, rfl, AllBare.push I.bare hb, Un.kept kp, ⟨_, by show Heap.Ns _ cenv.locals _; rw [hL]; exact hn'.push _, fun i y av e1 e2 e3 => ?_⟩, fun y c e => ?_, ?_, fun y c e => ?_, fun p hp => ?_, I.hok.kept kp, by rw [wipe_length]; exact I.len⟩
  · obtain ⟨e2, hne⟩ := wipe_some e2
    have e3 : Vis cenv.scope y := e3
    rw [hsc] at e3
    have notLoc : ¬ scope.names.lookup y = some .local := fun k => by
      rcases ok.blk.own _ (PySem.mem_of_lookup k) (.inl rfl) with e' | e'
      · obtain ⟨p, hp, hpy⟩ := List.mem_map.mp e'
        have e4 := ok.blk.ix p hp
        have : p.1 = y := hpy
        rw [this] at e4
        exact hne (List.mem_map.mpr ⟨p, hp, nodup_ix hN e4 e1⟩)
      · exact e' (List.mem_of_getElem? e1)
    have hfr2 : scope.names.lookup y = some .free := by
      rcases e3 with k | k | k
      · exact absurd k notLoc
      · exact absurd k (nocell y)
      · exact k
    obtain ⟨m, hn, hl⟩ := I.loc
    have hvis : Vis X.env.scope y := (ok.blk.free _ (PySem.mem_of_lookup hfr2) rfl).elim (fun k => .inr (.inl k)) (fun k => .inr (.inr k))
    obtain ⟨w, r, q⟩ := hl i y av e1 e2 hvis
    refine ⟨w, r, .inr ⟨.inr (show cenv.scope.names.lookup y = some .free by rw [hsc]; exact hfr2), ?_⟩⟩
    obtain ⟨c, h1, h2⟩ := look hfr2
    rcases q with ⟨k, _⟩ | ⟨_, c', e', z⟩
    · have k : X.env.scope.names.lookup y = some .local := k
      rcases ok.blk.free _ (PySem.mem_of_lookup hfr2) rfl with k' | k' <;> rw [show X.env.scope.names.lookup y = _ from k'] at k <;> cases k
    · rw [h2] at e'; cases e'
      exact ⟨c, h1, z.keeps kp⟩
  · obtain ⟨w, z⟩ := I.cell y c (mem (show cenv.cells.lookup y = some c from e)).1
    exact ⟨w, z.keeps kp⟩
  · show H cenv.locals = none
    rw [hL]; exact I.hok.fresh (Nat.le_refl _)
  · exact I.freeC y c (mem (show cenv.cells.lookup y = some c from e)).1
  · have e : p = (h'.objs.size, go) := by simpa using hp
    subst e
    refine ⟨hgf _, I.hok.fresh (by show s.heap.objs.size ≤ h'.objs.size; rw [hsz]; exact Nat.le_succ _), ?_, young _ (by show s.heap.objs.size ≤ h'.objs.size; rw [hsz]; exact Nat.le_succ _), hgo⟩
    show h'.objs.size ≠ cenv.locals
    rw [hL, hsz]; exact Nat.succ_ne_self _
end
end Gx
end

section
set_option Elab.async false
set_option linter.all false
set_option maxRecDepth 100000
set_option maxHeartbeats 2000000
/-! Generator expressions: 2, the generator's run and its draws. -/
namespace Gx
open PySem PySem.Spec PyProof.Rows L2
theorem Inv.gens {X : Cx} {pins : List (Addr × Obj)} {σ : L2.St} {H : Hp} {s : Shared} (I : Inv X pins σ H s) {g' : Array GenState} (h : AllBare g') : Inv X pins σ H { s with gens := g' } :=
  I.call' (s' := { s with gens := g' }) (ch := []) rfl Un.refl I.hok h fun b z => by simp at z
theorem AllBare.setGen {s : Shared} (h : AllBare s.gens) {g : Nat} {x : GenState} (hx : x.bare = true) : AllBare (s.setGen g x).gens := by
  intro y hy
  have hy : y ∈ (s.gens.setIfInBounds g x) := hy
  rcases Array.mem_or_eq_of_mem_setIfInBounds hy with z | z
  · exact h y z
  · rw [z]; exact hx
/-- what is fixed of a generator: its context, its code, what it walks, what its turns yield -/
structure GP where
  Xg : Cx
  A : Around
  elt : PySem.Expr
  tg : PySem.Expr
  iter : PySem.Expr
  scope : Scope
  pos : Pos
  it : Addr
  fp : List Addr
  tn : Nat → Heap → Prop
  J : It
  g : TG
  te : TE
  vs : List Nat
  σg : L2.St
  n : Nat
  f : Nat → V
  W : Nat → Hp → Prop
  ss : List Addr
namespace GP
variable (G : GP)
abbrev code : Code := .compLoop (.GeneratorExp G.elt [⟨G.tg, G.iter, [], 0⟩] G.scope G.pos) 0 (.ref G.it) .none G.Xg.env
abbrev code0 : Code := .compStart (.GeneratorExp G.elt [⟨G.tg, G.iter, [], 0⟩] G.scope G.pos) 0 (.ref G.it) .none G.Xg.env
/-- asleep ahead of turn i -/
def At (i : Nat) (s : Shared) : Prop := ∃ H, Inv G.Xg (pinsAt G.ss s.heap) G.σg H s ∧ G.tn i s.heap ∧ (∀ b ∈ G.fp, H b = none) ∧ (∀ S ∈ G.ss, (s.heap.get? S).isSome = true) ∧ G.W i H
def End (s : Shared) : Prop := ∃ pins H, Inv G.Xg pins G.σg H s ∧ G.W G.n H
def R : GenEnd := fun m _ r s₁ => r = .ok .next ∧ m = 0 ∧ G.End s₁
def Keep (s₀ s : Shared) : Prop := ∀ S ∈ G.ss, ∀ o, s₀.heap.get? S = some o → s.heap.get? S = some o
def Y : Protocol := fun m s₀ v s kap => RelV (G.f (G.n - 1 - m)) v ∧ G.At (G.n - m) s ∧ G.Keep s₀ s ∧ ∀ s'', G.At (G.n - m) s'' → kap (.send .none) s''
structure Ok : Prop where
  xe : G.Xg.xe = fun _ _ => False
  calm : G.Xg.calm = true
  hd : G.A.handled = none
  A0 : G.A.over G.code0 [] = G.Xg.A
  A1 : G.A.over G.code [] = G.Xg.A
  ex : G.Xg.ex = G.fp
  co : G.Xg.env.scope.isCoroutine = false
  pn : ∀ p ∈ G.Xg.pn, p.1 ∉ G.fp
  ss : ∀ S ∈ G.ss, S ∉ G.fp
  T : Turn G.Xg.prog G.Xg.w G.Xg.K G.tg G.J G.fp G.it G.tn
  pg : PG G.Xg G.tg G.g
  pe : PE G.Xg G.elt G.te
  len : (wipe G.σg G.vs).length = G.σg.length
  turn : ∀ i, i < G.n → ∀ H, G.W i H → G.J.go i H ∧ ∀ x H', G.J.yld i H x H' → G.g x G.σg H' fun σ2 H2 => wipe σ2 G.vs = G.σg ∧ G.te σ2 H2 fun v H3 => v = G.f i ∧ G.W (i + 1) H3
  stop : ∀ H, G.W G.n H → G.J.stop G.n H
end GP
section
variable {G : GP}
theorem GP.stat (k : G.Ok) {pins : List (Addr × Obj)} {σ : L2.St} {H : Hp} {s : Shared} (I : Inv G.Xg pins σ H s) (hp : ∀ p ∈ pins, p.1 ∉ G.fp) (hn : ∀ b ∈ G.fp, H b = none) : ∀ b ∈ G.fp, FpOk G.Xg pins H b := fun b hb => by
  have hbx : b ∈ G.Xg.ex := by rw [k.ex]; exact hb
  refine ⟨hn b hb, (I.ok.exf b hbx).1, I.ok.exfs b hbx, .inl hbx, fun x c e => (I.ok.exf b hbx).2 x c e, fun p hp' q => ?_⟩
  rcases List.mem_append.mp hp' with z | z
  · exact k.pn p z (by rw [q]; exact hb)
  · exact hp p z (by rw [q]; exact hb)
theorem GP.pins_fp (k : G.Ok) {h : Heap} : ∀ p ∈ pinsAt G.ss h, p.1 ∉ G.fp := fun p hp => k.ss _ (of_pinsAt hp).1
theorem pins_eq {ss : List Addr} {h h' : Heap} (hk : ∀ S ∈ ss, ∀ o, h.get? S = some o → h'.get? S = some o) (hn : ∀ S ∈ ss, (h.get? S).isSome = true) : pinsAt ss h' = pinsAt ss h := by
  induction ss with
  | nil => rfl
  | cons a r ih =>
    have ih' := ih (fun S hS => hk S (List.mem_cons_of_mem _ hS)) fun S hS => hn S (List.mem_cons_of_mem _ hS)
    unfold pinsAt at *
    obtain ⟨o, ho⟩ := Option.isSome_iff_exists.mp (hn a List.mem_cons_self)
    have h2 := hk a List.mem_cons_self o ho
    rw [List.filterMap_cons, List.filterMap_cons, ho, h2, ih']
theorem GP.loop (k : G.Ok) : ∀ (m i : Nat) (s₀ s : Shared), G.n - i = m → i ≤ G.n → G.At i s → G.Keep s₀ s →
    Seg (model G.Xg.prog G.Xg.w) G.A G.R G.Y m s₀ G.code ((model G.Xg.prog G.Xg.w).den G.code) [] s := by
  intro m
  induction m with
  | zero =>
    intro i s₀ s hm hi hat hk
    have hin : i = G.n := by omega
    subst hin
    obtain ⟨H, I, st, nfp, hsS, w⟩ := hat
    show Seg _ G.A _ _ _ s₀ _ ((compTurn (.GeneratorExp G.elt [⟨G.tg, G.iter, [], 0⟩] G.scope G.pos) 0 (.ref G.it) .none G.Xg.env).onRaise (leaving G.Xg.env)) [] s
    rw [compTurn_gen, Sem.onRaise_eq_wrap]
    refine seg_bind_wrap (wpAny_standAt ?_)
    refine seg_bind_wrap ?_
    rw [k.A1]
    refine thn (k.T.done G.Xg rfl rfl rfl k.calm G.n _ s G.σg H _ I (GP.stat k I (GP.pins_fp k) nfp) st (k.stop H w)) fun r s1 ⟨hr, I1⟩ => ?_
    subst hr
    exact seg_end (.ok .next) ⟨rfl, rfl, _, H, I1, w⟩
  | succ m ih =>
    intro i s₀ s hm hi hat hk
    have hlt : i < G.n := by omega
    obtain ⟨H, I, st, nfp, hsS, w⟩ := hat
    obtain ⟨go, step⟩ := k.turn i hlt H w
    show Seg _ G.A _ _ _ s₀ _ ((compTurn (.GeneratorExp G.elt [⟨G.tg, G.iter, [], 0⟩] G.scope G.pos) 0 (.ref G.it) .none G.Xg.env).onRaise (leaving G.Xg.env)) [] s
    rw [compTurn_gen, Sem.onRaise_eq_wrap]
    refine seg_bind_wrap (wpAny_standAt ?_)
    refine seg_bind_wrap ?_
    rw [k.A1]
    refine thn (k.T.item G.Xg rfl rfl rfl k.calm i _ s G.σg H _ I (GP.stat k I (GP.pins_fp k) nfp) st go) fun r s1 ⟨u, hr, h1⟩ => ?_
    subst hr
    refine seg_bind_wrap ?_
    rw [k.A1]
    refine thn h1 fun _ s2 ⟨x, H2, I2, r2, y2, st2, nfp2⟩ => ?_
    have I2' := I2.pinned (GP.stat k I2 (GP.pins_fp k) nfp2) (k.T.obj _ _ st2)
    refine seg_bind_wrap ?_
    rw [k.A1]
    have hpg := k.pg.run _ s2 _ H2 x u _ I2' r2 (step x H2 y2)
    rw [k.xe] at hpg
    refine thnF hpg fun _ s3 ⟨σ3, H3, I3, hw3, q3⟩ => ?_
    refine seg_bind_wrap (wpAny_tests_nil ?_)
    simp only [if_true]
    have hy : ∀ v, yieldOut G.Xg.env v = yieldValue v := fun v => by simp only [yieldOut, k.co, Bool.false_eq_true, if_false]
    simp only [hy]
    rw [Sem.bind_eq_wrap', Sem.bind_eq_wrap', Sem.wrap_wrap, Sem.wrap_wrap]
    refine seg_wrap ?_
    rw [k.A1]
    have hpe := k.pe.run _ s3 σ3 H3 _ I3 q3
    rw [k.xe] at hpe
    refine thnF hpe fun z s4 ⟨v4, H4, I4, r4, e4, w4⟩ => ?_
    subst e4
    have pin4 : ∀ b ∈ G.fp, ∀ o, s2.heap.get? b = some o → s4.heap.get? b = some o ∧ H4 b = none := fun b hb o e =>
      let z := I4.pin (b, o) (List.mem_append_right _ (List.mem_append_right _ (mem_pinsAt hb e)))
      ⟨z.1, z.2.1⟩
    have hl : G.σg.length = σ3.length := by rw [← hw3, wipe_length]
    have I5 : Inv G.Xg (pinsAt G.ss s.heap) G.σg H4 s4 := (I4.unpinned).weak hl fun j v e => by
      rw [← hw3] at e
      exact (wipe_some e).1
    have kS : ∀ S ∈ G.ss, ∀ o, s.heap.get? S = some o → s4.heap.get? S = some o := fun S hS o e => (I5.pin (S, o) (List.mem_append_right _ (mem_pinsAt hS e))).1
    have at5 : G.At (i + 1) s4 := ⟨H4, by rw [pins_eq kS hsS]; exact I5, k.T.keep _ _ _ st2 fun b hb o e => (pin4 b hb o e).1, fun b hb => by
      obtain ⟨o, e, _⟩ := k.T.obj _ _ st2 b hb
      exact (pin4 b hb o e).2, fun S hS => by
      obtain ⟨o, ho⟩ := Option.isSome_iff_exists.mp (hsS S hS)
      rw [kS S hS o ho]; rfl, w4⟩
    have e1 : G.n - 1 - m = i := by omega
    have e2 : G.n - m = i + 1 := by omega
    refine seg_at (seg_yield rfl rfl rfl ⟨by rw [e1]; exact r4, by rw [e2]; exact at5, fun S hS o e => kS S hS o (hk S hS o e), fun s'' hat'' => ?_⟩)
    rw [e2] at hat''
    exact seg_again rfl (ih (i + 1) s'' s'' (by omega) hlt hat'' fun _ _ _ e => e)
theorem GP.start (k : G.Ok) (s : Shared) (hat : G.At 0 s) :
    Seg (model G.Xg.prog G.Xg.w) G.A G.R G.Y G.n s G.code0 ((model G.Xg.prog G.Xg.w).den G.code0) [] s := by
  have loop := GP.loop k G.n 0 s s (Nat.sub_zero _) (Nat.zero_le _) hat fun _ _ _ e => e
  show Seg _ G.A _ _ _ s _ ((compStart (.GeneratorExp G.elt [⟨G.tg, G.iter, [], 0⟩] G.scope G.pos) 0 (.ref G.it) .none G.Xg.env).onRaise (leaving G.Xg.env)) [] s
  unfold compStart
  rw [Sem.onRaise_eq_wrap]
  show Seg _ G.A _ _ _ s _ ((ask >>= _).wrap _ _ _ _) [] s
  obtain ⟨H, I, st, nfp, hsS, w⟩ := hat
  refine seg_bind_wrap (wpAny_askSetting ?_)
  split
  · exact seg_again rfl loop
  · first
      | exact seg_bind_wrap (wpAny_rule (seg_bind_wrap (wpAny_standAt (seg_bind_wrap (k.T.self _ 0 s _ _ st (seg_again rfl loop))))))
      | (refine seg_bind_wrap (wpAny_rule ?_); show Seg _ G.A _ _ _ s _ ((standAt G.iter.pos >>= _).wrap _ _ _ _) [] s; exact seg_bind_wrap (wpAny_standAt (seg_bind_wrap (k.T.self _ 0 s _ _ st (seg_again rfl loop)))))
/-- the generator object at a, its state number g, ahead of turn i -/
def GP.Gen (G : GP) (a : Addr) (g : Nat) (i : Nat) (s : Shared) : Prop :=
  G.At i s ∧ s.heap.IsGen a g ∧ s.heap.NoLimit ∧ ∃ gs, s.gens[g]? = some gs ∧ gs.bare = true ∧ ∀ s'', G.At i s'' → gs.Goes (model G.Xg.prog G.Xg.w) G.A G.R G.Y (G.n - i) (.send .none) s''
theorem lt_gens {gens : Array GenState} {g : Nat} {gs : GenState} (h : gens[g]? = some gs) : g < gens.size := by
  rcases Nat.lt_or_ge g gens.size with h' | h'
  · exact h'
  · rw [Array.getElem?_eq_none h'] at h; cases h
theorem GP.At.setGen {i : Nat} {s : Shared} (h : G.At i s) {g : Nat} {x : GenState} (hx : x.bare = true) : G.At i (s.setGen g x) := by
  obtain ⟨H, I, r⟩ := h
  exact ⟨H, Inv.gens I (AllBare.setGen I.bare hx), r⟩
theorem GP.isGen {a : Addr} {g : Nat} {go : Obj} (hpn : (a, go) ∈ G.Xg.pn) (hg : ∀ h : Heap, h.get? a = some go → h.IsGen a g) {pins : List (Addr × Obj)} {σ : L2.St} {H : Hp} {s : Shared} (I : Inv G.Xg pins σ H s) : s.heap.IsGen a g :=
  hg _ (I.pin (a, go) (List.mem_append_left _ hpn)).1
/-- one draw -/
theorem GP.item (k : G.Ok) {A : Around} (hA : A.in1 = G.A) {a : Addr} {g : Nat} {go : Obj} (hpn : (a, go) ∈ G.Xg.pn) (hg : ∀ h : Heap, h.get? a = some go → h.IsGen a g) (hroom : A.depth < recursionLimit)
    {i : Nat} (hi : i < G.n) {s : Shared} (h : G.Gen a g i s) {Q : Option Value → Shared → Prop} {E : Value → Shared → Prop} (hQ : ∀ v s', RelV (G.f i) v → G.Gen a g (i + 1) s' → G.Keep s s' → Q (some v) s') :
    wpAny (model G.Xg.prog G.Xg.w) A (pyNext (.ref a)) Q E s := by
  obtain ⟨hat, isg, nl, gs, hgs, hb, goes⟩ := h
  have hh : A.handled = none := by
    have := k.hd
    rw [← hA] at this
    exact this
  obtain ⟨m, hm⟩ : ∃ m, G.n - i = m + 1 := ⟨G.n - i - 1, by omega⟩
  refine GenW.wpAny_gsz (n := g + 1) (lt_gens hgs) ?_
  have hgo := goes (s.setGen g .running) (hat.setGen rfl)
  rw [hm] at hgo
  refine wpAny_pyNext_genexpQ (P := fun m _ s₁ => m = 0 ∧ G.End s₁) hh nl hroom isg hgs (Y := G.Y) (n := m + 1) (by rw [hA]; exact hgo) (fun v s₁ gs' hb' hv => ?_) (fun s₁ hp => ?_)
  · obtain ⟨rv, at1, kp, kap⟩ := hv
    intro hsz
    have e1 : G.n - 1 - (m + 1 - 1) = i := by omega
    have e2 : G.n - (m + 1 - 1) = i + 1 := by omega
    rw [e1] at rv
    rw [e2] at at1 kap
    have hlt : g < s₁.gens.size := by
      have h1 : g + 1 ≤ (s₁.setGen g gs').gens.size := hsz
      rw [GenW.setGen_size] at h1
      omega
    refine hQ v _ rv ⟨at1.setGen hb', ?_, ?_, gs', ?_, hb', fun s'' hs'' => ?_⟩ kp
    · obtain ⟨H1, I1, _⟩ := at1
      show s₁.heap.IsGen a g
      exact GP.isGen hpn hg I1
    · obtain ⟨H1, I1, _⟩ := at1
      show s₁.heap.NoLimit
      exact I1.nolimit
    · simp [Shared.setGen, hlt]
    · have e3 : G.n - (i + 1) = m := by omega
      rw [e3, ← hA]
      exact kap s'' hs''
  · exact absurd hp.1 (Nat.succ_ne_zero m)
/-- the end of the draws -/
theorem GP.done (k : G.Ok) {A : Around} (hA : A.in1 = G.A) {a : Addr} {g : Nat} (hroom : A.depth < recursionLimit)
    {s : Shared} (h : G.Gen a g G.n s) {Q : Option Value → Shared → Prop} {E : Value → Shared → Prop} (hQ : ∀ s', G.End s' → Q none s') :
    wpAny (model G.Xg.prog G.Xg.w) A (pyNext (.ref a)) Q E s := by
  obtain ⟨hat, isg, nl, gs, hgs, hb, goes⟩ := h
  have hh : A.handled = none := by
    have := k.hd
    rw [← hA] at this
    exact this
  have hgo := goes (s.setGen g .running) (hat.setGen rfl)
  rw [Nat.sub_self] at hgo
  refine wpAny_pyNext_genexpQ (P := fun m _ s₁ => m = 0 ∧ G.End s₁) hh nl hroom isg hgs (Y := G.Y) (n := 0) (by rw [hA]; exact hgo) (fun v s₁ gs' hb' hv => ?_) (fun s₁ hp h' hk => ?_)
  · obtain ⟨_, at1, _, kap⟩ := hv
    exact False.elim (kap s₁ at1)
  · obtain ⟨_, pins, H, I, w⟩ := hp
    exact hQ _ ⟨pins, H, (Inv.gens I (AllBare.setGen (g := g) (x := .finished) I.bare rfl)).kept (t' := s₁.toks) hk, w⟩
end
end Gx
end

section
set_option Elab.async false
set_option linter.all false
set_option maxRecDepth 100000
set_option maxHeartbeats 4000000
/-! Generator expressions: 3, all(..) and sum(..) of them. -/
namespace Gx
open PySem PySem.Spec PyProof.Rows L2
section
variable {G : GP}
/-- what is left behind -/
def GP.Left (G : GP) (s' : Shared) : Prop := ∃ pins H i, i ≤ G.n ∧ Inv G.Xg pins G.σg H s' ∧ G.W i H
theorem GP.all_loop (k : G.Ok) (hs0 : G.ss = []) {A : Around} (hA : A.in1.in1 = G.A) {a : Addr} {g : Nat} {go : Obj} (hpn : (a, go) ∈ G.Xg.pn) (hg : ∀ h : Heap, h.get? a = some go → h.IsGen a g) (hroom : A.in1.depth < recursionLimit)
    (b : Nat → Bool) (hb : ∀ i, i < G.n → G.f i = .bl (b i)) {R : Result → Shared → Prop} : ∀ (m i : Nat) (s : Shared), G.n - i = m → i ≤ G.n → G.Gen a g i s → (∀ s', G.Left s' → R (.ok (.ret (.bool (((List.range G.n).drop i).all b)))) s') →
    codeAny (model G.Xg.prog G.Xg.w) A (.builtin "all.loop" ⟨[.ref a], []⟩) R s := by
  intro m
  induction m with
  | zero =>
    intro i s hm hi hst hR
    have hin : i = G.n := by omega
    subst hin
    refine codeAny_builtin F.entry_all_loop ?_
    rw [Around.under_plainId F.plain_all_loop _]
    show wpAny _ A.in1 (pyNext (.ref a) >>= _) _ _ s
    refine wpAny_bind (GP.done k hA hroom hst fun s' he => ?_)
    refine wpAny_bind (wpAny_rule (wpAny_pure ?_))
    obtain ⟨pins, H, I, w⟩ := he
    have := hR s' ⟨pins, H, G.n, Nat.le_refl _, I, w⟩
    rw [List.drop_of_length_le (by simp)] at this
    exact this
  | succ m ih =>
    intro i s hm hi hst hR
    have hlt : i < G.n := by omega
    have hd : (List.range G.n).drop i = i :: (List.range G.n).drop (i + 1) := by
      rw [List.drop_eq_getElem_cons (by simpa using hlt)]; simp
    refine codeAny_builtin F.entry_all_loop ?_
    rw [Around.under_plainId F.plain_all_loop _]
    show wpAny _ A.in1 (pyNext (.ref a) >>= _) _ _ s
    refine wpAny_bind (GP.item k hA hpn hg hroom hlt hst fun v s' rv hst' kp => ?_)
    rw [hb i hlt] at rv
    have ev : v = Value.bool (b i) := rv
    subst ev
    refine wpAny_bind (wpAny_holding (wpAny_truthy_bool ?_))
    refine wpAny_bind (wpAny_letGo ?_)
    cases hbi : b i with
    | true =>
      simp only [if_true]
      refine wpAny_pure ⟨plainId_quiet F.plain_all_loop _, ih (i + 1) _ (by omega) hlt hst' fun s'' hl => ?_⟩
      have := hR s'' hl
      rw [hd, List.all_cons, hbi, Bool.true_and] at this
      exact this
    | false =>
      simp only [Bool.false_eq_true, if_false]
      refine wpAny_bind (wpAny_rule (wpAny_pure ?_))
      obtain ⟨⟨H, I, _, _, _, w⟩, _⟩ := hst'
      have := hR s' ⟨_, H, i + 1, hlt, I, w⟩
      rw [hd, List.all_cons, hbi, Bool.false_and] at this
      exact this
/-- the consumer writes its own record S -/
theorem GP.At.wrote (k : G.Ok) {S : Addr} (hss : G.ss = [S]) (hS0 : G.Xg.s_0.heap.objs.size ≤ S) (hSpn : ∀ p ∈ G.Xg.pn, p.1 ≠ S) {i : Nat} {s : Shared} {h' : Heap} {t' : Nat} {o o' : Obj} (h : G.At i s) (hS : s.heap.get? S = some o) (hk : ∀ b u, b ≠ S → s.heap.get? b = some u → h'.get? b = some u)
    (hS' : h'.get? S = some o') (hd : ∀ v, o'.data ≠ .cell v) : G.At i { s with heap := h', toks := t' } := by
  obtain ⟨H, I, st, nfp, _, w⟩ := h
  have hSm : S ∈ G.ss := by rw [hss]; exact List.mem_singleton.mpr rfl
  have pS := I.pin (S, o) (List.mem_append_right _ (mem_pinsAt hSm hS))
  have hSf : S ∉ G.fp := k.ss S hSm
  have I0 : Inv G.Xg [] G.σg H s := I.pins_of fun p hp => absurd hp (by simp)
  have I1 : Inv G.Xg [] G.σg H { s with heap := h', toks := t' } := I0.turned (it := S) hk pS.2.1 pS.2.2.1 (.inr hS0) (fun x c e q => by
      obtain ⟨v, ob, ho, hdd⟩ := I.cell x c e
      rw [q] at ho
      rw [hS] at ho
      cases ho
      exact pS.2.2.2.2 v hdd) fun p hp => by
    rcases List.mem_append.mp hp with z | z
    · exact hSpn p z
    · cases z
  refine ⟨H, I1.pins_of fun p hp => ?_, k.T.keep _ _ _ st fun b hb u e => hk b u (fun q => hSf (by rw [← q]; exact hb)) e, nfp, fun T hT => by rw [show T = S by rw [hss] at hT; exact List.mem_singleton.mp hT]; show (h'.get? S).isSome = true; rw [hS']; rfl, w⟩
  obtain ⟨h1, h2⟩ := of_pinsAt hp
  have e1 : p.1 = S := by rw [hss] at h1; exact List.mem_singleton.mp h1
  have h2' : h'.get? p.1 = some p.2 := h2
  rw [e1, hS'] at h2'
  cases h2'
  exact ⟨h2, by rw [e1]; exact pS.2.1, by rw [e1]; exact pS.2.2.1, by rw [e1]; exact pS.2.2.2.1, hd⟩
theorem GP.Gen.wrote (k : G.Ok) {S : Addr} (hss : G.ss = [S]) (hS0 : G.Xg.s_0.heap.objs.size ≤ S) (hSpn : ∀ p ∈ G.Xg.pn, p.1 ≠ S) {a : Addr} {g : Nat} {go : Obj} (hpn : (a, go) ∈ G.Xg.pn) (hg : ∀ h : Heap, h.get? a = some go → h.IsGen a g) {i : Nat} {s : Shared} {h' : Heap} {t' : Nat} {o o' : Obj} (h : G.Gen a g i s) (hS : s.heap.get? S = some o)
    (hk : ∀ b u, b ≠ S → s.heap.get? b = some u → h'.get? b = some u) (hS' : h'.get? S = some o') (hd : ∀ v, o'.data ≠ .cell v) : G.Gen a g i { s with heap := h', toks := t' } := by
  obtain ⟨hat, isg, nl, gs, hgs, hb, goes⟩ := h
  have at' := GP.At.wrote (t' := t') k hss hS0 hSpn hat hS hk hS' hd
  refine ⟨at', ?_, ?_, gs, hgs, hb, goes⟩
  · obtain ⟨H1, I1, _⟩ := at'
    exact GP.isGen (s := { s with heap := h', toks := t' }) hpn hg I1
  · obtain ⟨H1, I1, _⟩ := at'
    exact I1.nolimit
theorem GP.sum_loop (k : G.Ok) {S : Addr} (hss : G.ss = [S]) (hS0 : G.Xg.s_0.heap.objs.size ≤ S) (hSpn : ∀ p ∈ G.Xg.pn, p.1 ≠ S) {A : Around} (hA : A.in1.in1 = G.A) {a : Addr} {g : Nat} {go : Obj} (hpn : (a, go) ∈ G.Xg.pn) (hg : ∀ h : Heap, h.get? a = some go → h.IsGen a g) (hroom : A.in1.depth < recursionLimit)
    (val : Nat → Int) (hv : ∀ i, i < G.n → G.f i = .int (val i)) {R : Result → Shared → Prop} : ∀ (m i : Nat) (s : Shared) (tA : Tok) (c : Nat) (st : Int), (st = 0 ∨ st = 2) → G.n - i = m → i ≤ G.n → G.Gen a g i s → s.heap.get? S = some { cls := .type "list", dict := none, data := .seq #[.int (preSum val i) tA] c, slots := #[] } →
    (∀ s' t', G.Left s' → R (.ok (.ret (.int (preSum val G.n) t'))) s') → codeAny (model G.Xg.prog G.Xg.w) A (.builtin "sum.loop" ⟨[.ref a, .ref S, rawInt st, rawInt 0], []⟩) R s := by
  have hSm : S ∈ G.ss := by rw [hss]; exact List.mem_singleton.mpr rfl
  intro m
  induction m with
  | zero =>
    intro i s tA c st hst2 hm hi hst hS hR
    have hin : i = G.n := by omega
    subst hin
    refine codeAny_builtin F.entry_sum_loop ?_
    rw [Around.under_plainId F.plain_sum_loop _]
    show wpAny _ A.in1 (seqItems? (.ref S) >>= _) _ _ s
    refine wpAny_bind (wpAny_seqItems hS rfl ?_)
    show wpAny _ A.in1 (tryCatch (pyNext (.ref a)) _ >>= _) _ _ s
    refine wpAny_bind (wpAny_tryCatch (GP.done k hA hroom hst fun s' he => ?_))
    obtain ⟨pins, H, I, w⟩ := he
    exact wpAny_pure (hR s' tA ⟨pins, H, G.n, Nat.le_refl _, I, w⟩)
  | succ m ih =>
    intro i s tA c st hst2 hm hi hst hS hR
    have hlt : i < G.n := by omega
    refine codeAny_builtin F.entry_sum_loop ?_
    rw [Around.under_plainId F.plain_sum_loop _]
    show wpAny _ A.in1 (seqItems? (.ref S) >>= _) _ _ s
    refine wpAny_bind (wpAny_seqItems hS rfl ?_)
    show wpAny _ A.in1 (tryCatch (pyNext (.ref a)) _ >>= _) _ _ s
    refine wpAny_bind (wpAny_tryCatch (GP.item k hA hpn hg hroom hlt hst fun v s' rv hst' kp => ?_))
    rw [hv i hlt] at rv
    obtain ⟨t, rfl⟩ := (show ∃ t, v = Value.int (val i) t from rv)
    have hS' := kp S hSm _ hS
    rcases hst2 with rfl | rfl
    · show wpAny _ A.in1 (if (_ : Bool) = true then (mkInt (preSum val i + val i) >>= _) else _) _ _ _
      split
      · refine wpAny_bind (wpAny_mkInt ?_)
        show wpAny _ A.in1 (updateSeq S (fun _ => #[.int (preSum val i + val i) s'.toks]) >>= _) _ _ _
        refine wpAny_bind ?_
        have hS2 := Heap.get?_update_self (Obj.mapSeq fun _ => #[Value.int (preSum val i + val i) s'.toks]) hS' rfl
        have hgen := GP.Gen.wrote (t' := s'.toks + 1) (h' := s'.heap.update S (Obj.mapSeq fun _ => #[Value.int (preSum val i + val i) s'.toks])) k hss hS0 hSpn hpn hg hst' hS' (fun b u hb e => (Heap.get?_update_other _ _ (Ne.symm hb)).trans e) hS2 fun v q => by cases q
        exact wpAny_updateSeq hS' rfl (wpAny_pure ⟨plainId_quiet F.plain_sum_loop _, ih (i + 1) _ s'.toks _ 0 (.inl rfl) (by omega) hlt hgen hS2 hR⟩)
      · refine wpAny_bind (wpAny_rule ?_)
        refine wpAny_bind (wpAny_attempt (wpAny_holding (wpAny_add_int ?_)))
        show wpAny _ A.in1 (updateSeq S (fun _ => #[.int (preSum val i + val i) s'.toks]) >>= _) _ _ _
        refine wpAny_bind (wpAny_updateSeq hS' rfl ?_)
        have hS₂ := Heap.get?_update_self (Obj.mapSeq fun _ => #[Value.int (preSum val i + val i) s'.toks]) hS' rfl
        refine wpAny_bind (wpAny_letGo ?_)
        have hS₃ := Heap.get?_update_self (Obj.mapSeq fun _ => #[Value.int (preSum val i + val i) s'.toks]) hS₂ rfl
        have hgen := GP.Gen.wrote (t' := s'.toks + 1) (h' := (s'.heap.update S (Obj.mapSeq fun _ => #[Value.int (preSum val i + val i) s'.toks])).update S (Obj.mapSeq fun _ => #[Value.int (preSum val i + val i) s'.toks])) k hss hS0 hSpn hpn hg hst' hS' (fun b u hb e => (Heap.get?_update_other _ _ (Ne.symm hb)).trans ((Heap.get?_update_other _ _ (Ne.symm hb)).trans e)) hS₃ fun v q => by cases q
        exact wpAny_bind (wpAny_updateSeq hS₂ rfl (wpAny_pure ⟨plainId_quiet F.plain_sum_loop _, ih (i + 1) _ s'.toks _ 2 (.inr rfl) (by omega) hlt hgen hS₃ hR⟩))
    · show wpAny _ A.in1 ((holding [Value.int (val i) t] (binaryOp .Add (.int (preSum val i) tA) (.int (val i) t))).attempt >>= _) _ _ _
      refine wpAny_bind (wpAny_attempt (wpAny_holding (wpAny_add_int ?_)))
      show wpAny _ A.in1 (updateSeq S (fun _ => #[.int (preSum val i + val i) s'.toks]) >>= _) _ _ _
      refine wpAny_bind (wpAny_updateSeq hS' rfl ?_)
      have hS₂ := Heap.get?_update_self (Obj.mapSeq fun _ => #[Value.int (preSum val i + val i) s'.toks]) hS' rfl
      refine wpAny_bind (wpAny_letGo ?_)
      have hS₃ := Heap.get?_update_self (Obj.mapSeq fun _ => #[Value.int (preSum val i + val i) s'.toks]) hS₂ rfl
      have hgen := GP.Gen.wrote (t' := s'.toks + 1) (h' := (s'.heap.update S (Obj.mapSeq fun _ => #[Value.int (preSum val i + val i) s'.toks])).update S (Obj.mapSeq fun _ => #[Value.int (preSum val i + val i) s'.toks])) k hss hS0 hSpn hpn hg hst' hS' (fun b u hb e => (Heap.get?_update_other _ _ (Ne.symm hb)).trans ((Heap.get?_update_other _ _ (Ne.symm hb)).trans e)) hS₃ fun v q => by cases q
      exact wpAny_bind (wpAny_updateSeq hS₂ rfl (wpAny_pure ⟨plainId_quiet F.plain_sum_loop _, ih (i + 1) _ s'.toks _ 2 (.inr rfl) (by omega) hlt hgen hS₃ hR⟩))
end

/-! ### the generator is made -/
section
variable {X : Cx} {pins : List (Addr × Obj)} {σ : L2.St} {H : Hp} {s : Shared}
structure Made (X : Cx) (pins : List (Addr × Obj)) (σ : L2.St) (vs : List Nat) (elt tg iter : PySem.Expr) (scope : Scope) (pos : Pos) (J : It) (H2 : Hp) (a : Addr) (gi : Nat) (s5 s4 : Shared) (it : Addr) (fp : List Addr) (tn : Nat → Heap → Prop) (code : Value) (go : Obj) : Prop where
  I : Inv X pins σ H2 s4
  hfp : ∀ b ∈ fp, FpOk X pins H2 b ∧ b < s4.heap.objs.size
  T : Turn X.prog X.w X.K tg J fp it tn
  tn0 : tn 0 s5.heap
  blk : ∀ A' : Around, A'.handled = X.A.handled → A'.frames = some (gEnv X scope s4.heap.objs.size code :: X.stack) → Inv (gen X A' s4 H2 (gEnv X scope s4.heap.objs.size code) fp [(a, go)]) [] (wipe σ vs) H2 s5
  lt : a < s5.heap.objs.size
  gt : s4.heap.objs.size < a
  isg : ∀ h : Heap, h.get? a = some go → h.IsGen a gi
  gens : s5.gens[gi]? = some (.fresh (.compStart (.GeneratorExp elt [⟨tg, iter, [], 0⟩] scope pos) 0 (.ref it) .none (gEnv X scope s4.heap.objs.size code)))
theorem gen_make {c P : Addr} {elt tg iter : PySem.Expr} {pos : Pos} {scope : Scope} {own : List (Str × Nat)} {wi : TI} {Q' : Value → Shared → Prop} {Rr : It → Hp → Prop}
    (hroom : X.A.depth < recursionLimit) (TB : GxR.TabB X.base X.mg c P) (hcode : X.env.code = .ref c) (ok : GenOk X.N X.env.scope scope own) (hN : X.N.Nodup) (hi : PI X tg iter wi)
    (hs : ∀ v, genFold iter X.env v = pure v) (I : Inv X pins σ H s) (h : wi σ H fun J H1 => GxR.TabG H1 P ∧ Rr J H1)
    (hQ : ∀ J H1 H2 a gi s5 s4 it fp tn code go, Rr J H1 → GxR.Tabbed P H1 H2 → Made X pins σ (own.map (·.2)) elt tg iter scope pos J H2 a gi s5 s4 it fp tn code go → Q' (.ref a) s5) :
    wpAny (model X.prog X.w) X.A (eval (.GeneratorExp elt [⟨tg, iter, [], 0⟩] scope pos) X.env) Q' X.xe s := by
  have hfree : ∀ y ∈ scope.names, y.2 = .free → ∃ c, X.env.cells.lookup y.1 = some c := fun y hy e => by
    rcases ok.blk.free y hy e with k | k
    · exact I.ok.has _ (.inl k)
    · exact I.ok.has _ (.inr k)
  refine wpAny_GeneratorExp_make ok.co (closure_ok hfree) ok.cell ok.dot ok.blk.kind hroom ?_ hs
  refine thn (hi.run pins s σ H _ I h) fun xv s1 hx => thn hx fun itv s2 h2 => ?_
  obtain ⟨it, fp, tn, J, H1, e, I2, T, st2, f2, ⟨ps, hP, ht⟩, q⟩ := h2
  subst e
  refine ⟨I2.nolimit, ?_⟩
  have hPs : s2.heap.get? P = some { cls := .none, data := .fields ps } := I2.hok P _ hP
  have hPlt : P < s2.heap.objs.size := Heap.lt_size hPs
  have cd : PySem.W.CodeHd s2.heap c P := TB.code.keeps I2.bk
  have PnF : ∀ b ∈ fp, b ≠ P := fun b hb z => by
    have := (f2 b hb).1
    rw [z, hP] at this
    cases this
  have sz2 : ∀ b ∈ fp, b < s2.heap.objs.size := fun b hb => by
    obtain ⟨o, e, _⟩ := T.obj _ _ st2 b hb
    exact Heap.lt_size e
  have cont : ∀ (code : Value) (h3 : Heap) (tk : Nat) (ps' : Array Value), Heap.ExtBut P s2.heap h3 → s2.heap.objs.size ≤ h3.objs.size → h3.get? P = some { cls := .none, data := .fields ps' } → (∃ more, ps' = ps ++ more) → TriplesOk ps'.toList →
      wpAny (model X.prog X.w) X.A (builtinsFor X.env.globals X.env.builtins) (fun bi s₄ =>
        ∀ h', h'.Ns s₄.heap.objs.size (fun y => if y = ".0" then some (.ref it) else none) → Heap.SameBut s₄.heap.objs.size (s₄.heap.push { cls := .type "frame", data := .dict #[] }) h' →
          Q' (.ref h'.objs.size) { s₄ with
            gens := s₄.gens.push (.fresh (.compStart (.GeneratorExp elt [⟨tg, iter, [], 0⟩] scope pos) 0 (.ref it) .none (genEnv scope (cloFrom X.env.cells scope.names []) s₄.heap.objs.size code bi X.env))),
            toks := s₄.toks + 1 + 1 + 1,
            heap := h'.push { cls := .type "generator", data := .fields #[.int s₄.gens.size 0, .str "<genexpr>" (s₄.toks + 1), .str (X.env.qual ++ "<genexpr>") (s₄.toks + 1 + 1)] } }) X.xe { s2 with heap := h3, toks := tk } := by
    intro code h3 tk ps' hx hsz hP3 hmore ht3
    obtain ⟨bm, ob, e1, e2, e3, e4, e5, e6, e7, e8⟩ := TB.bm
    refine wpAny_builtinsFor (m := X.mg) (by rw [I2.ok.glob]; exact (I2.mod.glob.keeps I2.bk).extBut hx TB.gP) e1 e2 (hx _ _ e4 (I2.bk _ _ e5)) e6 e7 e8 ?_
    intro h' hn' hs'
    obtain ⟨more, em⟩ := hmore
    subst em
    have I3 : Inv X pins σ (upd H1 P (.tbl (ps ++ more))) { s2 with heap := h3, gens := s2.gens, drawn := s2.drawn, toks := tk } := GxR.inv_tab (g' := s2.gens) (d' := s2.drawn) (t' := tk) I2 hP (fun b o hb e => hx b o hb e) hP3 I2.bare
    have f3 : ∀ b ∈ fp, FpOk X pins (upd H1 P (.tbl (ps ++ more))) b ∧ b < h3.objs.size := fun b hb => ⟨⟨by rw [upd_ne (PnF b hb)]; exact (f2 b hb).1, (f2 b hb).2⟩, Nat.lt_of_lt_of_le (sz2 b hb) hsz⟩
    have hsz' : h'.objs.size = h3.objs.size + 1 := by rw [hs'.1, Heap.size_push]
    have keep' : ∀ b o, h3.get? b = some o → h'.get? b = some o := fun b o e => hs'.extBut b o (Nat.ne_of_lt (Heap.lt_size e)) (Heap.get?_push_of_some _ e)
    refine hQ J H1 (upd H1 P (.tbl (ps ++ more))) h'.objs.size s2.gens.size _ { s2 with heap := h3, toks := tk } it fp tn code { cls := .type "generator", data := .fields #[.int s2.gens.size 0, .str "<genexpr>" (tk + 1), .str (X.env.qual ++ "<genexpr>") (tk + 1 + 1)] } q ⟨⟨_, upd_same, ht3⟩, fun b hb => upd_ne hb⟩
      { I := I3, hfp := f3, T := T, tn0 := ?_, blk := ?_, lt := ?_, gt := ?_, isg := ?_, gens := ?_ }
    · exact T.keep _ _ _ st2 fun b hb o e => Heap.get?_push_of_some _ (keep' b o (hx b o (PnF b hb) e))
    · intro A' hA hfr
      exact gen_start (tk := tk + 1 + 1 + 1) I3 ok hN f3 hA hfr hn' hs' (fun v z => by cases z) (fun h => Heap.get?_push_size _ rfl) rfl
    · show h'.objs.size < (h'.push _).objs.size
      rw [Heap.size_push]; exact Nat.lt_succ_self _
    · show h3.objs.size < h'.objs.size
      rw [hsz']; exact Nat.lt_succ_self _
    · intro h e
      exact ⟨_, _, _, e, rfl, rfl, rfl⟩
    · exact Array.getElem?_push_size ..
  cases hf : codeAmong pos ps.toList with
  | none =>
    refine wpAny_genexprCodeX hcode (cd.code hPs ht) (cd.tab hPs) hf fun c' h3 tk hx hge hlt hco' _ htab' _ => ?_
    obtain ⟨o1, vs, f1, tf, fl, tg', inF, tx, tt, op, _, _, _, _, _, _, _, _, _, htr, _⟩ := hco'
    exact cont _ h3 tk _ hx (Nat.le_trans hge (Nat.le_of_lt hlt)) htab'.2 ⟨_, rfl⟩ htr
  | some cv =>
    refine wpAny_genexprCode_hit hcode (cd.code hPs ht) hf ?_
    exact cont cv s2.heap s2.toks ps (Heap.ExtBut.refl _ _) (Nat.le_refl _) hPs ⟨#[], by simp⟩ ht
end
end Gx
end

section
set_option Elab.async false
set_option linter.all false
set_option maxRecDepth 100000
set_option maxHeartbeats 4000000
/-! Generator expressions: 4, the rules. -/
namespace Gx
open PySem PySem.Spec PyProof.Rows L2
/-- the turns of such a generator: n of them, the i-th yields f i, W between them -/
def Turns (J : It) (g : TG) (te : TE) (vs : List Nat) (σ : L2.St) (n : Nat) (f : Nat → V) (W : Nat → Hp → Prop) : Prop :=
  (∀ i, i < n → ∀ H, W i H → J.go i H ∧ ∀ x H', J.yld i H x H' → g x (wipe σ vs) H' fun σ2 H3 => wipe σ2 vs = wipe σ vs ∧ te σ2 H3 fun v H4 => v = f i ∧ W (i + 1) H4) ∧ ∀ H, W n H → J.stop n H
def tAllG (P : Addr) (wi : TI) (g : TG) (te : TE) (vs : List Nat) : TE := fun σ H Q => wi σ H fun J H1 => GxR.TabG H1 P ∧ ∀ H2, GxR.Tabbed P H1 H2 → ∃ (n : Nat) (b : Nat → Bool) (W : Nat → Hp → Prop),
  W 0 H2 ∧ Turns J g te vs σ n (fun i => .bl (b i)) W ∧ ∀ i H, i ≤ n → W i H → Q (.bl ((List.range n).all b)) H
def tSumG (P : Addr) (wi : TI) (g : TG) (te : TE) (vs : List Nat) : TE := fun σ H Q => wi σ H fun J H1 => GxR.TabG H1 P ∧ ∀ H2, GxR.Tabbed P H1 H2 → ∃ (n : Nat) (z : Nat → Int) (W : Nat → Hp → Prop),
  W 0 H2 ∧ Turns J g te vs σ n (fun i => .int (z i)) W ∧ ∀ i H, i ≤ n → W i H → Q (.int (preSum z n)) H
section
variable {X : Cx}
theorem wipe_wipe (σ : L2.St) (vs : List Nat) : (wipe (wipe σ vs) vs).length = (wipe σ vs).length := wipe_length _ _
/-- the parameters of a made generator -/
abbrev mkG (X : Cx) (elt tg iter : PySem.Expr) (scope : Scope) (pos : Pos) (J : It) (H2 : Hp) (a : Addr) (s4 : Shared) (it : Addr) (fp : List Addr) (tn : Nat → Heap → Prop) (code : Value) (go : Obj) (g : TG) (te : TE) (vs : List Nat) (σ : L2.St) (n : Nat) (f : Nat → V) (W : Nat → Hp → Prop) (ss : List Addr) : GP :=
  { Xg := Gx.gen X (gA X.A elt tg iter scope pos (.ref it) (gEnv X scope s4.heap.objs.size code)) s4 H2 (gEnv X scope s4.heap.objs.size code) fp [(a, go)]
    A := X.A.in1.in1, elt := elt, tg := tg, iter := iter, scope := scope, pos := pos, it := it, fp := fp, tn := tn, J := J, g := g, te := te, vs := vs, σg := wipe σ vs, n := n, f := f, W := W, ss := ss }
theorem mkG_ok {k : Nat} {pins : List (Addr × Obj)} {σ : L2.St} {vs : List Nat} {elt tg iter : PySem.Expr} {scope : Scope} {pos : Pos} {J : It} {H2 : Hp} {a : Addr} {gi : Nat} {s5 s4 : Shared} {it : Addr} {fp : List Addr} {tn : Nat → Heap → Prop} {code : Value} {go : Obj} {g : TG} {te : TE} {n : Nat} {f : Nat → V} {W : Nat → Hp → Prop} {ss : List Addr}
    (hr : Room (k + 1) X.A) (hc : X.calm = true) (co : scope.isCoroutine = false) (M : Made X pins σ vs elt tg iter scope pos J H2 a gi s5 s4 it fp tn code go)
    (hgt : ∀ A' s H C code fp pn, PG (Gx.gen X A' s H (gEnv X scope C code) fp pn) tg g) (he : ∀ A' s H C code fp pn, Room k A' → PE (Gx.gen X A' s H (gEnv X scope C code) fp pn) elt te)
    (T : Turns J g te vs σ n f W) (hss : ∀ S ∈ ss, S ∉ fp) : (mkG X elt tg iter scope pos J H2 a s4 it fp tn code go g te vs σ n f W ss).Ok where
  xe := rfl
  calm := hc
  hd := hr.hd
  A0 := rfl
  A1 := rfl
  ex := rfl
  co := co
  pn := fun p hp hm => by
    have e : p = (a, go) := by simpa using hp
    subst e
    exact Nat.lt_irrefl _ (Nat.lt_trans M.gt (M.hfp _ hm).2)
  ss := hss
  T := M.T
  pg := hgt _ _ _ _ _ _ _
  pe := he _ _ _ _ _ _ _ (gA_room hr)
  len := wipe_wipe _ _
  turn := T.1
  stop := T.2
/-- back in the def's context -/
theorem back {pins : List (Addr × Obj)} {σ : L2.St} {vs : List Nat} {elt tg iter : PySem.Expr} {scope : Scope} {pos : Pos} {J : It} {H2 : Hp} {a : Addr} {gi : Nat} {s5 s4 : Shared} {it : Addr} {fp : List Addr} {tn : Nat → Heap → Prop} {code : Value} {go : Obj} (M : Made X pins σ vs elt tg iter scope pos J H2 a gi s5 s4 it fp tn code go)
    {A' : Around} {pn pins' : List (Addr × Obj)} {σ' : L2.St} {H' : Hp} {s' : Shared} (I : Inv (Gx.gen X A' s4 H2 (gEnv X scope s4.heap.objs.size code) fp pn) pins' σ' H' s') : Inv X pins σ H' s' :=
  M.I.call' (ch := fp) I.os I.base I.hok I.bare fun b hb => ⟨(M.hfp b hb).1.2.2.2.1, (M.hfp b hb).1.2.1, (M.hfp b hb).1.2.2.2.2.1, (M.hfp b hb).1.2.2.2.2.2⟩
theorem pe_allG {k : Nat} {c P : Addr} {elt tg iter : PySem.Expr} {p pos gpos : Pos} {scope : Scope} {own : List (Str × Nat)} {wi : TI} {g : TG} {te : TE}
    (hr : Room (k + 1) X.A) (hc : X.calm = true) (hg : Gl X "all") (hm : X.mg "all" = none) (TB : GxR.TabB X.base X.mg c P) (hcode : X.env.code = .ref c) (ok : GenOk X.N X.env.scope scope own) (hN : X.N.Nodup) (hi : PI X tg iter wi)
    (hgt : ∀ A' s H C code fp pn, PG (Gx.gen X A' s H (gEnv X scope C code) fp pn) tg g) (he : ∀ A' s H C code fp pn, Room k A' → PE (Gx.gen X A' s H (gEnv X scope C code) fp pn) elt te)
    (hs : ∀ v, genFold iter X.env v = pure v := by intro _; rfl)
    (hst : starEach [.GeneratorExp elt [⟨tg, iter, [], 0⟩] scope gpos] X.env = (false, eval (.GeneratorExp elt [⟨tg, iter, [], 0⟩] scope gpos) X.env) :: starEach [] X.env := by rfl) :
    PE X (.Call (.Name "all" p) [.GeneratorExp elt [⟨tg, iter, [], 0⟩] scope gpos] [] pos) (tAllG P wi g te (own.map (·.2))) := by
  refine ⟨fun pins s σ H Q I h => ?_⟩
  refine wpAny_Call_Name_kw (ld_blt I hg hm (show bootBuiltins "all" = some (.builtin "all") by decide +kernel) ?_)
  refine PyProof.Rows.callWith_builtin1 ?_ hst (by rfl)
  rw [hst]
  show wpAny _ _ (spliced ((false, eval (.GeneratorExp elt [⟨tg, iter, [], 0⟩] scope gpos) X.env) :: backTo pos (starEach [] X.env))) _ _ s
  refine Calls.spliced_cons (gen_make (by have := hr.dp; omega) TB hcode ok hN hi hs I h fun J H1 H2 a gi s5 s4 it fp tn code go hR hT M => ?_)
  refine Calls.spliced_nil ?_
  obtain ⟨n, b, W, w0, T, hQ⟩ := hR H2 hT
  have kk := mkG_ok (ss := []) hr hc ok.co M hgt he T (fun S hS => absurd hS (by simp))
  have I5 := M.blk (gA X.A elt tg iter scope gpos (.ref it) (gEnv X scope s4.heap.objs.size code)) rfl (gA_frames I.ok.frames)
  have hroom : X.A.in1.depth < recursionLimit := by
    have := hr.dp
    show X.A.depth < _
    omega
  refine call_function_tree F.kind_all F.plain_all F.entry_all (F.args_all1 _) ?_
  unfold Builtin.«all»
  refine wpAny_bind (m := oneArg "all" _) (wpAny_pure ?_)
  have isg : s5.heap.IsGen a gi := M.isg _ (I5.pin (a, go) (by simp)).1
  refine wpAny_bind (wpAny_pyIter_gen isg ?_)
  refine wpAny_pure ⟨plainId_quiet F.plain_all_loop _, GP.all_loop kk rfl rfl (by simp) M.isg hroom b (fun _ _ => rfl) n 0 s5 (Nat.sub_zero _) (Nat.zero_le _) ⟨⟨H2, I5, M.tn0, fun b hb => (M.hfp b hb).1.1, fun S hS => absurd hS (by simp), w0⟩, isg, I5.nolimit, _, M.gens, rfl, fun s'' hs'' => ⟨rfl, GP.start kk s'' hs''⟩⟩ fun s' hl => ?_⟩
  obtain ⟨pins', H', i, hi', I', w'⟩ := hl
  rw [List.drop_zero]
  exact ⟨.bl ((List.range n).all b), H', back M I', rfl, hQ i H' hi' w'⟩
theorem pe_sumG {k : Nat} {c P : Addr} {elt tg iter : PySem.Expr} {p pos gpos : Pos} {scope : Scope} {own : List (Str × Nat)} {wi : TI} {g : TG} {te : TE}
    (hr : Room (k + 1) X.A) (hc : X.calm = true) (hg : Gl X "sum") (hm : X.mg "sum" = none) (TB : GxR.TabB X.base X.mg c P) (hcode : X.env.code = .ref c) (ok : GenOk X.N X.env.scope scope own) (hN : X.N.Nodup) (hi : PI X tg iter wi)
    (hgt : ∀ A' s H C code fp pn, PG (Gx.gen X A' s H (gEnv X scope C code) fp pn) tg g) (he : ∀ A' s H C code fp pn, Room k A' → PE (Gx.gen X A' s H (gEnv X scope C code) fp pn) elt te)
    (hs : ∀ v, genFold iter X.env v = pure v := by intro _; rfl)
    (hst : starEach [.GeneratorExp elt [⟨tg, iter, [], 0⟩] scope gpos] X.env = (false, eval (.GeneratorExp elt [⟨tg, iter, [], 0⟩] scope gpos) X.env) :: starEach [] X.env := by rfl) :
    PE X (.Call (.Name "sum" p) [.GeneratorExp elt [⟨tg, iter, [], 0⟩] scope gpos] [] pos) (tSumG P wi g te (own.map (·.2))) := by
  refine ⟨fun pins s σ H Q I h => ?_⟩
  refine wpAny_Call_Name_kw (ld_blt I hg hm (show bootBuiltins "sum" = some (.builtin "sum") by decide +kernel) ?_)
  refine PyProof.Rows.callWith_builtin1 ?_ hst (by rfl)
  rw [hst]
  show wpAny _ _ (spliced ((false, eval (.GeneratorExp elt [⟨tg, iter, [], 0⟩] scope gpos) X.env) :: backTo pos (starEach [] X.env))) _ _ s
  refine Calls.spliced_cons (gen_make (by have := hr.dp; omega) TB hcode ok hN hi hs I h fun J H1 H2 a gi s5 s4 it fp tn code go hR hT M => ?_)
  refine Calls.spliced_nil ?_
  obtain ⟨n, z, W, w0, T, hQ⟩ := hR H2 hT
  have I5 := M.blk (gA X.A elt tg iter scope gpos (.ref it) (gEnv X scope s4.heap.objs.size code)) rfl (gA_frames I.ok.frames)
  have hroom : X.A.in1.depth < recursionLimit := by
    have := hr.dp
    show X.A.depth < _
    omega
  have S5 : s4.heap.objs.size < s5.heap.objs.size := Nat.lt_trans M.gt M.lt
  have hSf : s5.heap.objs.size ∉ fp := fun hm => Nat.lt_irrefl _ (Nat.lt_trans (M.hfp _ hm).2 S5)
  have kk := mkG_ok (ss := [s5.heap.objs.size]) hr hc ok.co M hgt he T (fun S hS => by rw [List.mem_singleton.mp hS]; exact hSf)
  have isg : s5.heap.IsGen a gi := M.isg _ (I5.pin (a, go) (by simp)).1
  refine call_function_tree F.kind_sum F.plain_sum F.entry_sum (F.args_sum1 _) ?_
  unfold Builtin.«sum»
  simp only [List.length_cons, List.length_nil]
  rw [if_neg (by decide)]
  refine wpAny_bind (wpAny_of_eq (show Builtin.Builtins.bindParams "sum" ["start"] 0 { } = pure [none] from rfl) ?_)
  refine wpAny_bind (wpAny_pyIter_gen isg ?_)
  refine wpAny_bind (wpAny_mkInt ?_)
  refine wpAny_bind (wpAny_pure ?_)
  simp only [List.forIn_cons, List.forIn_nil]
  refine wpAny_bind (wpAny_bind (wpAny_bind (wpAny_isInstance (T := "int") (b := false) (typeIs_int _ _ _) PySem.sub_int_str ?_)))
  simp only [Bool.false_eq_true, if_false]
  refine wpAny_pure (wpAny_bind (wpAny_bind (wpAny_isInstance (T := "int") (b := false) (typeIs_int _ _ _) PySem.sub_int_bytes ?_)))
  simp only [Bool.false_eq_true, if_false]
  refine wpAny_pure (wpAny_bind (wpAny_bind (wpAny_isInstance (T := "int") (b := false) (typeIs_int _ _ _) PySem.sub_int_bytearray ?_)))
  simp only [Bool.false_eq_true, if_false]
  refine wpAny_pure (wpAny_pure ?_)
  refine wpAny_bind (wpAny_newObj_type ?_)
  have I6 := (I5.kept (h' := s5.heap.push { cls := .type "list", data := .seq #[.int 0 s5.toks] }) (t' := s5.toks + 1) fun b o e => Heap.get?_push_of_some _ e)
  have hS6 : (s5.heap.push { cls := .type "list", data := .seq #[.int 0 s5.toks] }).get? s5.heap.objs.size = some { cls := .type "list", data := .seq #[.int 0 s5.toks] } := Heap.get?_push_size _ rfl
  have I7 : Inv _ (pinsAt [s5.heap.objs.size] (s5.heap.push { cls := .type "list", data := .seq #[.int 0 s5.toks] })) _ _ _ := I6.pins_of fun p hp => by
    obtain ⟨h1, h2⟩ := of_pinsAt hp
    have e1 : p.1 = s5.heap.objs.size := List.mem_singleton.mp h1
    rw [e1] at h2 ⊢
    have e2 : p.2 = { cls := .type "list", data := .seq #[.int 0 s5.toks] } := (Option.some.inj (hS6.symm.trans h2)).symm
    refine ⟨h2, I5.hok.fresh (Nat.le_refl _), Nat.ne_of_gt I5.lt, I5.nofs (Nat.le_refl _), fun v q => ?_⟩
    rw [e2] at q
    cases q
  refine wpAny_pure ⟨plainId_quiet F.plain_sum_loop _, GP.sum_loop kk rfl (Nat.le_of_lt S5) (fun p hp => ?_) rfl (by simp) M.isg hroom z (fun _ _ => rfl) n 0 _ s5.toks 0 0 (.inl rfl) (Nat.sub_zero _) (Nat.zero_le _)
    ⟨⟨H2, I7, M.T.keep _ _ _ M.tn0 fun b _ o e => Heap.get?_push_of_some _ e, fun b hb => (M.hfp b hb).1.1, fun S hS => by rw [List.mem_singleton.mp hS]; show ((s5.heap.push _).get? _).isSome = true; rw [hS6]; rfl, w0⟩, ?_, I6.nolimit, _, M.gens, rfl, fun s'' hs'' => ⟨rfl, GP.start kk s'' hs''⟩⟩ hS6 fun s' t' hl => ?_⟩
  · have e : p = (a, go) := by simpa using hp
    subst e
    exact Nat.ne_of_lt M.lt
  · exact M.isg _ (I6.pin (a, go) (by simp)).1
  · obtain ⟨pins', H', i, hi', I', w'⟩ := hl
    exact ⟨.int (preSum z n), H', back M I', ⟨t', rfl⟩, hQ i H' hi' w'⟩
end
end Gx
end

section
set_option Elab.async false
set_option linter.all false
set_option maxRecDepth 100000
set_option maxHeartbeats 4000000
/-! More rules over the layer: enumerate of a tuple, a tuple backwards, math.lcm, a set of a list of ints. -/
namespace Lx
open PySem PySem.Spec PyProof.Rows L2
/-! ### enumerate(t) of a tuple -/
theorem meets_enum_newT (l : Addr) (items : Array Value) (n : Nat) (dct : Option Addr) (sl : Array (Option Value)) :
    Meets (Builtin.«enumerate.__new__» ⟨[.type "enumerate", .ref l], []⟩) (fun _ R s => s.heap.get? l = some { cls := .type "tuple", dict := dct, data := .seq items n, slots := sl } ∧
      R (.ok (.ret (.ref (s.heap.push { cls := .type "tuple_iterator", data := .fields #[.ref l, .int 0 0] }).objs.size)))
        { s with heap := (s.heap.push { cls := .type "tuple_iterator", data := .fields #[.ref l, .int 0 0] }).push { cls := .type "enumerate", data := .fields #[.none, .bool false, .ref s.heap.objs.size, rawInt 0, .none, .none] } }) :=
  .of_wp fun prog w A R s h => by
    obtain ⟨hp, g, d, tk, os⟩ := s; obtain ⟨hl, h⟩ := h
    have hsub := sub_enumerate
    have hL : Heap.IsTuple (Shared.heap ⟨hp, g, d, tk, os⟩) l items := ⟨_, hl, rfl, n, rfl⟩
    wp_walk using AutoSeq1.wpAny_loadPart' hl
    refine wpAny_stack_any fun st => wpAny_pure ?_
    split
    · rename_i c _ _ _ _ _
      cases (c == Value.type "enumerate")
      · wp_walk using AutoSeq1.wpAny_loadPart' hl, wpAny_pyIter_tuple hL
        exact ⟨_, rfl, h⟩
      · wp_walk using AutoSeq1.wpAny_loadPart' hl, wpAny_pyIter_tuple hL
        exact ⟨_, rfl, h⟩
    · wp_walk using AutoSeq1.wpAny_loadPart' hl, wpAny_pyIter_tuple hL
      exact ⟨_, rfl, h⟩
section
variable {prog : Program} {w : World} {A : Around} {E : Value → Shared → Prop} {s : Shared}
theorem call_enum_tuple {l : Addr} {items : Array Value} {Q : Value → Shared → Prop} (hL : s.heap.IsTuple l items)
    (h : ∀ h', IsEnum h' (s.heap.objs.size + 1) s.heap.objs.size 0 .none → h'.IsTupleIter s.heap.objs.size l 0 → h'.objs.size = s.heap.objs.size + 2 →
      (∀ b o, s.heap.get? b = some o → h'.get? b = some o) → Q (.ref (s.heap.objs.size + 1)) { s with heap := h' }) :
    wpAny (model prog w) A (call (.type "enumerate") [.ref l]) Q E s := by
  obtain ⟨⟨c, dct, dt, sl⟩, hl, hc, n, hd⟩ := hL
  replace hc : c = .type "tuple" := hc
  replace hd : dt = .seq items n := hd
  subst hc hd
  refine callType_new PySem.F.called_enumerate (by decide) (PySem.F.typeCall_enumerate_1 _) (PySem.F.newCall_enumerate_1 _) (fun obj => PySem.F.args_object_init_2 obj _) PySem.F.entry_enumerate_new
    (meets_enum_newT l items n dct sl) ⟨hl, ?_⟩
  have hz : (s.heap.push { cls := .type "tuple_iterator", data := .fields #[.ref l, .int 0 0] }).objs.size = s.heap.objs.size + 1 := Heap.size_push ..
  show _ ∧ _
  rw [hz]
  have he : IsEnum ((s.heap.push { cls := .type "tuple_iterator", data := .fields #[.ref l, .int 0 0] }).push
      { cls := .type "enumerate", data := .fields #[.none, .bool false, .ref s.heap.objs.size, rawInt 0, .none, .none] }) (s.heap.objs.size + 1) s.heap.objs.size 0 .none := by
    have := Heap.get?_push_size (s.heap.push { cls := .type "tuple_iterator", data := .fields #[.ref l, .int 0 0] })
      (o := { cls := .type "enumerate", data := .fields #[.none, .bool false, .ref s.heap.objs.size, rawInt 0, .none, .none] }) rfl
    rw [hz] at this; exact this
  refine ⟨⟨_, he, rfl⟩, h _ he ⟨_, Heap.get?_push_of_some _ (Heap.get?_push_size _ rfl), rfl, rfl⟩ (by rw [Heap.size_push, hz]) fun b o x => Heap.get?_push_of_some _ (Heap.get?_push_of_some _ x)⟩
end
/-- the tuple at a, each item in a new pair with its place -/
def IteT (K : PySem.W.Frag) (a : Addr) : It :=
  ⟨fun i H => ∃ (xs : List V) (x : V), SqT K H a xs ∧ xs[i]? = some x, fun i H v H' => ∃ T x, v = .ref T ∧ H T = none ∧ H' = upd H T (.tup [.int (i : Nat), x]) ∧ ∀ xs, SqT K H a xs → xs[i]? = some x, fun i H => ∃ xs : List V, SqT K H a xs ∧ xs.length ≤ i⟩
theorem turn_enumT {P : Program} {w : World} {K : PySem.W.Frag} {elts : List PySem.Expr} {kk : Nat} {tpos : Pos} (a e it : Addr) :
    Turn P w K (.Tuple elts kk tpos) (IteT K a) [e, it] e (fun i h => (∃ old, IsEnum h e it ((i : Nat) : Int) old) ∧ h.IsTupleIter it a i ∧ e ≠ it) where
  mem := by simp
  obj := fun i h st b hb => by
    obtain ⟨⟨old, he⟩, ⟨o, ho, hc, hd⟩, _⟩ := st
    have e' : b = e ∨ b = it := by simpa using hb
    rcases e' with z | z
    · rw [z]; exact ⟨_, he, fun v q => nomatch q⟩
    · rw [z]; exact ⟨o, ho, fun v q => by rw [hd] at q; cases q⟩
  keep := fun i h h' st k => let ⟨⟨old, he⟩, hi, hne⟩ := st; ⟨⟨old, k e (by simp) _ he⟩, hi.at fun o q => k it (by simp) o q, hne⟩
  item := by
    intro X hP hw hK hc i pins s σ H E I hf st hg
    subst hP hw hK
    obtain ⟨⟨old, he⟩, hit, hne⟩ := st
    obtain ⟨xs, x, hq, hx⟩ := hg
    obtain ⟨its, rv, p, hz⟩ := I.tuple hq
    obtain ⟨u, hu, ru⟩ := rv.get hx
    have hel : e < s.heap.objs.size := Heap.lt_size he
    have hil : it < s.heap.objs.size := by obtain ⟨_, q, _⟩ := hit; exact Heap.lt_size q
    have hai : a ≠ it := fun z => by
      obtain ⟨o, ho, hcc, hdd⟩ := hit
      obtain ⟨o', ho', hcc', _⟩ := p
      rw [z, ho] at ho'
      cases ho'
      rw [hcc] at hcc'
      exact absurd (Value.type.inj hcc') (by decide)
    have hae : a ≠ e := fun z => by
      obtain ⟨o', ho', hcc', _⟩ := p
      rw [z, show s.heap.get? e = _ from he] at ho'
      cases ho'
      exact absurd (Value.type.inj hcc') (by decide)
    have D := Draws.tuple (prog := X.prog) (w := X.w) (A := X.A.in1) (I.ok.hd hc) it a hai its.toArray
    have hlt : i < its.toArray.size := by
      have := (List.getElem?_eq_some_iff.mp hu).1
      simpa using this
    refine wpAny_pyNext_enum_itemD D he ⟨hit, p⟩ hlt hne (by simp only [List.mem_cons, List.not_mem_nil, or_false, not_or]; exact ⟨hne, Ne.symm hae⟩) fun y h' tk hy ho hit' hT hsz hk => ?_
    have hyu : y = u := by
      have hy' : its.toArray[i]? = some y := hy
      have : its[i]? = some y := by simpa using hy'
      rw [hu] at this
      exact (Option.some.inj this).symm
    subst hyu
    refine ⟨_, rfl, wpAny_letOwnedTupleGo_enum (s := { s with heap := h', toks := tk + 1 }) ho fun h'' he' sb => ?_⟩
    have hT2 : h''.get? s.heap.objs.size = some { cls := .type "tuple", data := .seq #[.int i tk, y] } := (sb.2 _ (Nat.ne_of_gt hel)).trans hT
    have new : ObjOk X.prog X.w (upd H s.heap.objs.size (.tup [.int (i : Nat), x])) h'' s.heap.objs.size (.tup [.int (i : Nat), x]) :=
      ⟨by show 2 ≤ sizeLine; decide, [.int i tk, y], .cons ⟨_, rfl⟩ (.cons ru .nil), ⟨_, hT2, rfl, _, rfl⟩⟩
    have I1 : Inv X pins σ (upd H s.heap.objs.size (.tup [.int (i : Nat), x])) { s with heap := h'', toks := tk + 1 } :=
      I.turnedNew (ch := [e, it]) (fun b ob hb q => (sb.2 b (fun z => hb (by simp [z]))).trans (hk b ob (fun z => hb (by simp [z])) (fun z => hb (by simp [z])) q)) hf (Nat.le_refl _) new
    refine ⟨.ref s.heap.objs.size, _, I1, rfl, ⟨_, x, rfl, I.hok.fresh (Nat.le_refl _), rfl, fun ys hy => by rw [I.tuple_inj hy hq]; exact hx⟩, ⟨⟨y, ?_⟩, hit'.1.at fun o q => (sb.2 it (Ne.symm hne)).trans q, hne⟩, fun b hb => ?_⟩
    · have e1 : ((i + 1 : Nat) : Int) = (i : Int) + 1 := by omega
      rw [e1]; exact he'
    · have hb' : b < s.heap.objs.size := by
        have e' : b = e ∨ b = it := by simpa using hb
        rcases e' with z | z
        · rw [z]; exact hel
        · rw [z]; exact hil
      rw [upd_ne (Nat.ne_of_lt hb')]
      exact (hf b hb).1
  done := by
    intro X hP hw hK hc i pins s σ H E I hf st hg
    subst hP hw hK
    obtain ⟨⟨old, he⟩, hit, hne⟩ := st
    obtain ⟨xs, hq, hx⟩ := hg
    obtain ⟨its, rv, p, hz⟩ := I.tuple hq
    obtain ⟨f0, f1, f2, f3, f4, f5⟩ := hf it (by simp)
    have hl := rv.length
    have hT : s.TypeIs (.ref e) "enumerate" := ⟨_, he, rfl⟩
    unfold pyNext
    refine wpAny_bind (wpAny_attempt (wpAny_callSpecial?_slot (name := Str.ofString "__next__") hT PySem.F.slot_enumerate_next
      (wpAny_call_entry PySem.F.slot_enumerate_next hT PySem.F.entry_enumerate_next ?_ (PySem.F.args_enumerate_next_1 _))))
    show wpAny _ _ (field (.ref e) 2 >>= _) _ _ _
    refine wpAny_bind (wpAny_field he rfl (x := .ref it) rfl ?_)
    refine wpAny_bind (wpAny_nextOf_tuple_end (show X.A.in1.handled = none from I.ok.hd hc) hit (show s.heap.IsTuple a its.toArray from p) (by simp; omega) fun h' x' he' hx' => ?_)
    obtain ⟨o, ho, hcc⟩ := hx'
    refine wpAny_bind (wpAny_isInstance (T := "StopIteration") (b := true) ⟨o, ho, hcc⟩ isSubtype_stop ?_)
    exact wpAny_pure ⟨rfl, I.turned (t' := s.toks) (fun b o hb q => he' b o hb q) f0 f1 f3 f4 f5⟩
  self := fun A i s Q E st h => let ⟨⟨_, he⟩, _⟩ := st; wpAny_pyIter_enum he h
def iEnumT (K : PySem.W.Frag) (ta : TA) : TI := fun σ H R => ta σ H fun vs H1 => ∃ a xs, vs = [.ref a] ∧ SqT K H1 a xs ∧ R (IteT K a) H1
theorem pi_enumT {X : Cx} {e : PySem.Expr} {ta : TA} {p pos tpos : Pos} {elts : List PySem.Expr} {kk : Nat} (hg : Gl X "enumerate") (hm : X.mg "enumerate" = none) (ha : PA X [e] ta) (hs : starEach [e] X.env = [(false, eval e X.env)] := by rfl) :
    PI X (.Tuple elts kk tpos) (.Call (.Name "enumerate" p) [e] [] pos) (iEnumT X.K ta) := by
  refine ⟨fun pins s σ H R I h => ?_⟩
  refine Call_ (ld_blt I hg hm boot_enumerate (PyProof.Rows.callWith_type1 (thn (ha.run pos pins s σ H _ I h) fun us s1 ⟨vs, H1, I1, r1, q1⟩ => ?_) hs rfl))
  obtain ⟨a, xs, ex, hq, q⟩ := q1
  subst ex
  cases r1 with
  | cons r rr =>
    cases rr
    cases r
    obtain ⟨its, rv, p', hz⟩ := I1.tuple hq
    refine call_enum_tuple p' fun h' he hit hsz hk => wpAny_pyIter_enum he ?_
    have I2 : Inv X pins σ H1 { s1 with heap := h' } := I1.kept (t' := s1.toks) hk
    refine ⟨s1.heap.objs.size + 1, [s1.heap.objs.size + 1, s1.heap.objs.size], _, _, H1, rfl, I2, turn_enumT a (s1.heap.objs.size + 1) s1.heap.objs.size, ⟨⟨.none, he⟩, hit, Nat.succ_ne_self _⟩, fun b hb => ?_, q⟩
    have e' : b = s1.heap.objs.size + 1 ∨ b = s1.heap.objs.size := by simpa using hb
    have hle : s1.heap.objs.size ≤ b := by
      rcases e' with z | z
      · rw [z]; exact Nat.le_add_right _ _
      · rw [z]; exact Nat.le_refl _
    exact I1.fpOk hle (I1.hok.fresh hle)
/-- a for over it -/
theorem for_enumT {K : PySem.W.Frag} {a : Addr} {xs : List V} {g : TG} {tb : TS} {D : Ends} {σ : L2.St} {H : Hp} (Pv : Nat → L2.St → Hp → Prop) (h0 : Pv 0 σ H) (hl : ∀ i σ H, i ≤ xs.length → Pv i σ H → SqT K H a xs)
    (hs : ∀ i x T σ H, xs[i]? = some x → Pv i σ H → H T = none → g (.ref T) σ (upd H T (.tup [.int (i : Nat), x])) fun σ2 H2 => tb { D with nx := Pv (i + 1), ct := Pv (i + 1), bk := D.nx } σ2 H2) (hd : ∀ σ H, Pv xs.length σ H → D.nx σ H) :
    ∃ W : Nat → Nat → L2.St → Hp → Prop, (∃ m, W 0 m σ H) ∧ ∀ i m σ H, W i m σ H →
      ((IteT K a).stop i H ∧ D.nx σ H) ∨ ((IteT K a).go i H ∧ ∃ N : L2.St → Hp → Prop, (∀ σ' H', N σ' H' → ∃ m', m' < m ∧ W (i + 1) m' σ' H') ∧ ∀ x H', (IteT K a).yld i H x H' → g x σ H' fun σ2 H2 => tb { D with nx := N, ct := N, bk := D.nx } σ2 H2) := by
  refine ⟨fun i m σ H => m = xs.length - i ∧ i ≤ xs.length ∧ Pv i σ H, ⟨xs.length, by simp, Nat.zero_le _, h0⟩, ?_⟩
  rintro i m σ H ⟨rfl, hi, p⟩
  have q := hl i σ H hi p
  by_cases hlt : i < xs.length
  · refine .inr ⟨⟨xs, xs[i], q, by simp [hlt]⟩, Pv (i + 1), fun σ' H' p' => ⟨xs.length - (i + 1), by omega, rfl, hlt, p'⟩, fun x H' y => ?_⟩
    obtain ⟨T, y1, e1, e2, e3, y⟩ := y
    subst e1 e3
    exact hs i y1 T σ _ (y xs q) p e2
  · have e : i = xs.length := by omega
    subst e
    exact .inl ⟨⟨xs, q, Nat.le_refl _⟩, hd σ H p⟩
section
variable {X : Cx}
/-! ### math.lcm of two ints -/
def rLcm : List V → Hp → VK → Prop := fun vs H Q => ∃ a b : Int, vs = [.int a, .int b] ∧ a.natAbs < 2 ^ 64 ∧ b.natAbs < 2 ^ 64 ∧ Q (.int ((Nat.lcm a.natAbs b.natAbs : Nat) : Int)) H
theorem cr_lcm : CallR X (.builtin "math.lcm") rLcm := by
  intro pins s σ H vs us Q I r h
  obtain ⟨a, b, rfl, h1, h2, q⟩ := h
  obtain ⟨t, u, rfl⟩ := Vals.int2 r
  exact PySem.W.mc_lcm h1 h2 fun _ => ⟨.int _, H, I.tok _, ⟨_, rfl⟩, q⟩
end
end Lx
end

section
set_option Elab.async false
set_option linter.all false
set_option maxRecDepth 100000
set_option maxHeartbeats 4000000
/-! A tuple backwards; a set of a list of ints. -/
namespace Lx
open PySem PySem.Spec PyProof.Rows L2 HT
section
variable {prog : Program} {w : World} {A : Around} {E : Value → Shared → Prop} {s : Shared}
theorem adjust_rev (n : Nat) : Builtin.Slice.sliceAdjust none none (-1) (n : Int) = ((n : Int) - 1, -1) := by
  unfold Builtin.Slice.sliceAdjust
  rfl
theorem places_rev (n : Nat) : Builtin.Slice.slicePlaces ((n : Int) - 1) (-1) (-1) = n := by
  unfold Builtin.Slice.slicePlaces
  have h1 : ¬ ((-1 : Int) > 0) := by omega
  simp only [h1, if_false]
  split
  · simp only [show (- (-1 : Int)) = 1 by decide, Int.ediv_one]
    omega
  · omega
theorem pick_rev (xs : Array Value) : ((List.range xs.size).filterMap fun (m : Nat) => xs[(((xs.size : Int) - 1) + (m : Int) * (-1)).toNat]?).toArray = xs.toList.reverse.toArray := by
  have e : (List.range xs.size).filterMap (fun (m : Nat) => xs[(((xs.size : Int) - 1) + (m : Int) * (-1)).toNat]?) = ((List.range xs.size).map fun k => xs.size - 1 - k).filterMap (xs[·]?) := by
    rw [List.filterMap_map]
    have g : ∀ l : List Nat, (∀ m ∈ l, m < xs.size) → l.filterMap (fun (m : Nat) => xs[(((xs.size : Int) - 1) + (m : Int) * (-1)).toNat]?) = l.filterMap ((fun x => xs[x]?) ∘ fun k => xs.size - 1 - k) := by
      intro l
      induction l with
      | nil => intro _; rfl
      | cons m l ih =>
        intro hl
        have hm := hl m List.mem_cons_self
        have e2 : (((xs.size : Int) - 1) + (m : Int) * (-1)).toNat = xs.size - 1 - m := by omega
        rw [List.filterMap_cons, List.filterMap_cons, e2, ih fun m' h' => hl m' (List.mem_cons_of_mem _ h')]
        rfl
    exact g _ fun m hm => List.mem_range.mp hm
  rw [e, PySem.W.krv_range, List.filterMap_reverse, PySem.W.krv_all]
theorem sliceApplied_rev {sl : Addr} {vl vu vs : Value} {n : Nat} {Q : Int × Int × Nat → Shared → Prop} (hs : s.heap.IsSliceOf sl vl vu vs) (pl : IsPart vl none) (pu : IsPart vu none) (ps : IsPart vs (some (-1)))
    (h : Q ((n : Int) - 1, -1, n) s) : wpAny (model prog w) A (Builtin.Slice.sliceApplied (.ref sl) (pure (n : Int))) Q E s := by
  obtain ⟨os, hos, hcs, hds⟩ := id hs
  unfold Builtin.Slice.sliceApplied Builtin.Slice.sliceFields
  refine wpAny_bind (wpAny_bind (wpAny_field hos hds (x := vl) rfl (wpAny_bind (wpAny_field hos hds (x := vu) rfl (wpAny_bind (wpAny_field hos hds (x := vs) rfl (wpAny_pure ?_)))))))
  refine wpAny_bind (slicePart_ ps ?_)
  show wpAny _ _ (if ((-1 : Int) == 0) = true then _ else _) _ _ s
  rw [if_neg (by decide)]
  refine wpAny_bind (slicePart_ pl (wpAny_bind (slicePart_ pu (wpAny_bind (wpAny_pure ?_)))))
  show wpAny _ _ (match Builtin.Slice.sliceAdjust none none (-1) (n : Int) with | (lo, hi) => pure (lo, (-1 : Int), Builtin.Slice.slicePlaces lo hi (-1))) _ _ s
  rw [adjust_rev n]
  show wpAny _ _ (pure ((n : Int) - 1, (-1 : Int), Builtin.Slice.slicePlaces ((n : Int) - 1) (-1) (-1))) _ _ s
  rw [places_rev]
  exact wpAny_pure h
theorem getItem_tuple_rev {t sl : Addr} {items : Array Value} {vl vu vs : Value} {Q : Value → Shared → Prop} (ht : IsTup s.heap t items) (hs : s.heap.IsSliceOf sl vl vu vs) (pl : IsPart vl none) (pu : IsPart vu none) (ps : IsPart vs (some (-1)))
    (h : Q (.ref s.heap.objs.size) { s with heap := s.heap.push { cls := .type "tuple", data := .seq items.toList.reverse.toArray } })
    (hsz : items.size ≤ sizeLine) : wpAny (model prog w) A (getItem (.ref t) (.ref sl)) Q E s := by
  have htake : sizeOk (.seq items.toList.reverse.toArray) := by
    show items.toList.reverse.toArray.size ≤ sizeLine
    rw [List.size_toArray, List.length_reverse, Array.length_toList]
    exact hsz
  obtain ⟨os, hos, hcs, hds⟩ := id hs
  have hTs : s.TypeIs (.ref sl) "slice" := ⟨os, hos, hcs⟩
  unfold getItem
  try with_reducible refine wpAny_holding ?_
  first | refine wpAny_bind (wpAny_pure ?_) | skip
  refine wpAny_bind (wpAny_sequenceKey ht.typeIs (by decide) ?_)
  refine wpAny_bind (wpAny_callSpecial?_slot (name := Str.ofString "__getitem__") ht.typeIs PyProof.Rows.slot_tuple_getitem
    (wpAny_call_entry PyProof.Rows.slot_tuple_getitem ht.typeIs entry_tuple_getitem ?_ (args_tuple_getitem _ _)))
  show wpAny _ _ (Builtin.Tuple.tupleItemsOf (.ref t) >>= _) _ _ s
  refine wpAny_bind (tupleItemsOf_ ht ?_)
  refine wpAny_bind (wpAny_typeOf hTs ?_)
  rw [if_pos (by decide)]
  refine wpAny_bind (sliceApplied_rev hs pl pu ps ?_)
  have hno : ¬ ((((items.size : Int) - 1) == 0 && (-1 : Int) == 1 && (items.size) == items.size) = true) := by
    intro q
    rw [Bool.and_eq_true, Bool.and_eq_true] at q
    exact absurd q.1.2 (by decide)
  show wpAny _ _ (if (((items.size : Int) - 1) == 0 && (-1 : Int) == 1 && (items.size) == items.size) = true then _ else _) _ _ s
  rw [if_neg hno, pick_rev]
  first
    | exact wpAny_bind (m := Builtin.Tuple.tupleExact _) (wpAny_newObj_type (wpAny_pure ⟨_, rfl, wpAny_pure h⟩) htake)
    | exact wpAny_bind (m := Builtin.Tuple.tupleExact _) (wpAny_newObj_type (wpAny_bind (wpAny_pure (wpAny_pure ⟨_, rfl, wpAny_pure h⟩))) htake)
    | exact wpAny_bind (wpAny_bind (m := Builtin.Tuple.tupleExact _) (wpAny_newObj_type (wpAny_pure (wpAny_pure ⟨_, rfl, wpAny_pure h⟩)) htake))
    | exact wpAny_bind (wpAny_bind (m := Builtin.Tuple.tupleExact _) (wpAny_newObj_type (wpAny_pure (wpAny_pure ⟨_, rfl, wpAny_pure h⟩)) htake))
set_option maxRecDepth 100000 in
set_option maxHeartbeats 3200000 in
theorem call_set_listI {l : Addr} {items : Array Value} (ns : List Int) {Q : Value → Shared → Prop} (hh : A.handled = none) (hl : s.heap.IsList l items) (hit : IntsAre items.toList ns) (hb : ns.length + 1 < scanBound)
    (h : ∀ (h' : Heap) (tk c : Nat), SetR w h' s.heap.objs.size (fun j => decide (j ∈ ns)) c → c ≤ ns.length → (∀ b o, s.heap.get? b = some o → h'.get? b = some o) → Q (.ref s.heap.objs.size) { s with heap := h', toks := tk }) :
    wpAny (model prog w) A (call (.type "set") [.ref l]) Q E s := by
  have hisz : items.size = ns.length := by
    have q := IntsAre.length hit
    rw [Array.length_toList] at q
    exact q
  obtain ⟨c, tl, hmro⟩ := PySem.F.called_set.mro
  have hmade := PySem.F.called_set.made
  have hsub := PySem.F.called_set.sub
  refine wpAny_call (codeAny_of_tree ?_)
  show wpAny _ _ (callAny (.type "set") _) _ _ _
  refine wpAny_pure ⟨Code.quiet_builtin _ (by decide +kernel), codeAny_builtin PySem.F.entry_type_call ?_⟩
  rw [Around.under_plain (weight_type_call_type "set" [.ref l] []) rfl]
  have h1 := PySem.F.called_set.notType
  have h2 := PySem.F.called_set.canCreate
  have hct := PySem.F.typeCall_set_1 (.ref l)
  repeat (any_goals (first | assumption | wp_step))
  refine codeAny_mono (code_set_led1 (.ref l) (E := E) (Q₁ := fun obj s₁ => obj = .ref s.heap.objs.size ∧ s₁ = { s with heap := s.heap.push { cls := .type "set", dict := none, data := .set #[] 0 (.fresh 0 0 (!w.params.followText "set-order")) } }) ⟨rfl, rfl⟩) fun r s₁ hr => ?_
  cases r with
  | error e => exact hr
  | ok fl =>
    cases fl with
    | ret obj =>
      obtain ⟨rfl, rfl⟩ := hr
      have hS : (s.heap.push { cls := .type "set", dict := none, data := .set #[] 0 (.fresh 0 0 (!w.params.followText "set-order")) }).get? s.heap.objs.size = some { cls := .type "set", dict := none, data := .set #[] 0 (.fresh 0 0 (!w.params.followText "set-order")) } := Heap.get?_push_size _ rfl
      have hT : Shared.TypeIs { s with heap := s.heap.push { cls := .type "set", dict := none, data := .set #[] 0 (.fresh 0 0 (!w.params.followText "set-order")) } } (.ref s.heap.objs.size) "set" := ⟨_, hS, rfl⟩
      have hli := PySem.F.called_set.init.lookup
      have hbi := PySem.F.called_set.init.bind (.ref s.heap.objs.size)
      repeat (any_goals (first | assumption | wp_step))
      refine codeAny_mono (codeAny_call_builtin (R := wants (fun r s₂ => r = .none ∧ ∃ h' tk c, s₂ = { s with heap := h', toks := tk } ∧ SetR w h' s.heap.objs.size (fun j => decide (j ∈ ns)) c ∧ c ≤ ns.length ∧
          (∀ b o, s.heap.get? b = some o → h'.get? b = some o)) E) PySem.F.called_set.init.plain PySem.F.entry_set_init (check_set_init_1 hT ?_)) fun r₂ s₂ hr₂ => ?_
      · obtain ⟨ol, hol, hcl, nl, hdl⟩ := hl
        obtain ⟨ocls, odict, odata, oslots⟩ := ol
        simp only at hcl hdl
        subst hcl; subst hdl
        have hol' : (s.heap.push { cls := .type "set", dict := none, data := .set #[] 0 (.fresh 0 0 (!w.params.followText "set-order")) }).get? l = some { cls := .type "list", dict := odict, data := .seq items nl, slots := oslots } := Heap.get?_push_of_some _ hol
        have hsls := PySem.F.sub_list_set
        have hslf := PySem.F.sub_list_frozenset
        have hne : (Value.type "list" == Value.type "dict") = false := by decide
        have hl1 : (s.heap.push { cls := .type "set", dict := none, data := .set #[] 0 (.fresh 0 0 (!w.params.followText "set-order")) }).IsList l items := ⟨_, hol', rfl, nl, rfl⟩
        unfold Builtin.«set.__init__» noKeywords Builtin.Frozenset.updateFrom
        generalize hPI : pyIter = PI
        wp_walk
        subst hPI
        refine wpAny_pyIter_list hl1 ?_
        refine wpAny_bind (wpAny_runValue ?_)
        have hlS : l < s.heap.objs.size := Heap.lt_size hol
        have hh3 : A.in1.in1.in1.handled = none := by simp [hh]
        have hz1 : (s.heap.push { cls := .type "set", dict := none, data := .set #[] 0 (.fresh 0 0 (!w.params.followText "set-order")) }).objs.size = s.heap.objs.size + 1 := Heap.size_push ..
        have hneI : l ≠ (s.heap.push { cls := .type "set", dict := none, data := .set #[] 0 (.fresh 0 0 (!w.params.followText "set-order")) }).objs.size := by
          rw [Heap.size_push]; exact Nat.ne_of_lt (Nat.lt_succ_of_lt hlS)
        have hSf : s.heap.objs.size ∉ [(s.heap.push { cls := .type "set", dict := none, data := .set #[] 0 (.fresh 0 0 (!w.params.followText "set-order")) }).objs.size, l] := by
          rw [Heap.size_push]; simp only [List.mem_cons, List.mem_singleton, List.not_mem_nil, or_false, not_or]
          exact ⟨Nat.ne_of_lt (Nat.lt_succ_self _), Nat.ne_of_gt hlS⟩
        have hval : ∀ (i : Nat) (v : Value), items[i]? = some v → ∃ k t, ns[i]? = some k ∧ v = .int k t := fun i v hv => by
          have hi : i < ns.length := by rw [← hisz]; exact (Array.getElem?_eq_some_iff.mp hv).1
          obtain ⟨t, e⟩ := PyProof.Rows.IntsAre.int_at hit i v (by rw [Array.getElem?_toList]; exact hv)
          refine ⟨ns[i], t, List.getElem?_eq_getElem hi, ?_⟩
          rw [e, List.getD_eq_getElem?_getD, List.getElem?_eq_getElem hi] <;> rfl
        refine set_update_ints ((Walks.list hh3 _ l hneI items).toS) s.heap.objs.size
          hSf ns hisz hb hval (items.size - 0) 0 _ (by omega) (Nat.zero_le _)
          ⟨⟨_, Heap.get?_push_size _ rfl, rfl, rfl⟩, (hl1.push _)⟩ ?hS0 ?hR
        case hS0 =>
          have hget : ((s.heap.push { cls := .type "set", dict := none, data := .set #[] 0 (.fresh 0 0 (!w.params.followText "set-order")) }).push { cls := .type "list_iterator", data := .fields #[.ref l, .int 0 0] }).get? s.heap.objs.size
              = some { cls := .type "set", dict := none, data := .set #[] 0 (.fresh 0 0 (!w.params.followText "set-order")) } := Heap.get?_push_of_some _ hS
          exact ⟨0, Nat.le_refl 0, setR_new_at hget⟩
        case hR =>
          intro s' c' hm hc' hS'
          obtain ⟨h', g2, d', tk', os'⟩ := s'
          have eg : g2 = s.gens := hm.gens
          have ed : d' = s.drawn := hm.drawn
          have eo : os' = s.os := hm.os
          subst eg; subst ed; subst eo
          show wpAny _ _ _ _ _ _
          refine wpAny_pure ?_
          show wpAny _ _ (ret Value.none) _ _ _
          rw [hisz] at hc'
          refine wpAny_pure ⟨rfl, h', tk', c', rfl, hS', hc', fun b o e => ?_⟩
          have hb0 : b < s.heap.objs.size := Heap.lt_size e
          have hb1 : b ≠ s.heap.objs.size := Nat.ne_of_lt hb0
          have hb2 : b ≠ (s.heap.push { cls := .type "set", dict := none, data := .set #[] 0 (.fresh 0 0 (!w.params.followText "set-order")) }).objs.size := by
            rw [Heap.size_push]; exact Nat.ne_of_lt (Nat.lt_succ_of_lt hb0)
          exact hm.heap b o (by simp only [List.mem_cons, List.mem_singleton, List.not_mem_nil, or_false, not_or]; exact ⟨hb1, hb2⟩) (Heap.get?_push_of_some _ (Heap.get?_push_of_some _ e))
      · cases r₂ with
        | error e => exact hr₂
        | ok fl =>
          cases fl with
          | ret v =>
            obtain ⟨rfl, h', tk, c', rfl, hS', hc', hk'⟩ := hr₂
            repeat (any_goals (first | assumption | wp_step))
            exact h _ _ _ hS' hc' hk'
          | _ => exact hr₂.elim
    | _ => exact hr.elim
end
section
variable {X : Cx}
def tRevT (K : PySem.W.Frag) (te : TE) : TE := fun σ H Q => te σ H fun x H1 => ∃ a xs, x = .ref a ∧ SqT K H1 a xs ∧ ∀ p, H1 p = none → Q (.ref p) (upd H1 p (.tup xs.reverse))
theorem pe_revT {e : Expr} {te : TE} {k : Nat} {p1 p2 p3 pos : Pos} (he : PE X e te) : PE X (.Subscript e (.Slice none none (some (.UnaryOp .USub (.Constant (.int 1) k p1) p2)) p3) pos) (tRevT X.K te) := by
  refine ⟨fun pins s σ H Q I h => ?_⟩
  refine Subscript_ (thn (he.run pins s σ H _ I h) fun v s1 ⟨x, H1, I1, r1, q1⟩ => ?_)
  obtain ⟨a, xs, ex, hx, q⟩ := q1
  subst ex
  cases r1
  have hst : PO X (some (.UnaryOp .USub (.Constant (.int 1) k p1) p2)) (tPart (tUn (rU fun i => .int (-i)) (tC (.int 1)))) := po_some (pe_un un_neg pe_int)
  refine wpAny_Slice (thn (po_none.run pins s1 σ H1 (fun o H2 => o = none ∧ H2 = H1) I1 ⟨rfl, rfl⟩) fun vl s2 ⟨l, H2, I2, pl, el, e2⟩ => ?_)
  subst el e2
  refine thn (po_none.run pins s2 σ H2 (fun o H3 => o = none ∧ H3 = H2) I2 ⟨rfl, rfl⟩) fun vu s3 ⟨u, H3, I3, pu, eu, e3⟩ => ?_
  subst eu e3
  refine thn (hst.run pins s3 σ H3 (fun o H4 => o = some (-1) ∧ H4 = H3) I3 ⟨1, rfl, -1, rfl, rfl, rfl⟩) fun vs s4 ⟨o, H4, I4, ps, eo, e4⟩ => ?_
  subst eo e4
  have I5 : Inv X pins σ H4 { s4 with heap := s4.heap.push { cls := .type "slice", data := .fields #[vl, vu, vs] } } := I4.kept (t' := s4.toks) fun b ob q => Heap.get?_push_of_some _ q
  obtain ⟨its, r, ht, hz⟩ := I5.tuple hx
  have hlen := r.length
  show wpAny (model X.prog X.w) X.A (subscriptTail e (.Slice none none (some (.UnaryOp .USub (.Constant (.int 1) k p1) p2)) p3) (.ref a) (.ref s4.heap.objs.size)) (EP X pins σ Q) X.xe { s4 with heap := s4.heap.push { cls := .type "slice", data := .fields #[vl, vu, vs] } }
  refine tail_any (ops := [.ref a, .ref s4.heap.objs.size]) ht.typeIs (PyProof.Rows.slot_tuple_getitem.lookup) ?_ (by with_unfolding_all rfl)
  refine getItem_tuple_rev ht (Heap.IsSliceOf.new _ vl vu vs) pl pu ps ?_ (by rw [List.size_toArray]; omega)
  refine ⟨.ref _, _, I5.laid (t' := s4.toks) (o := .tup xs.reverse) (fun b ob q => Heap.get?_push_of_some _ q) (Nat.le_refl _) ?_, rfl, q _ (I5.hok.fresh (Nat.le_refl _))⟩
  exact ⟨by rw [List.length_reverse]; exact hz, _, r.reverse, ⟨_, Heap.get?_push_size _ rfl, rfl, 0, rfl⟩⟩
/-- set(xs) of a list of ints -/
def rSetL (K : PySem.W.Frag) (w : World) : List V → Hp → VK → Prop := fun vs H Q => ∃ (l : Addr) (ns : List Int), vs = [.ref l] ∧ SqL K H l (ns.map V.int) ∧ ns.length < 64 ∧
  ∀ p n, H p = none → n ≤ ns.length → Q (.ref p) (upd H p (SetO w p (fun j => decide (j ∈ ns)) n))
theorem cr_setL (hc : X.calm = true) : CallR X (.type "set") (rSetL X.K X.w) := by
  intro pins s σ H xs us Q I r h
  obtain ⟨l, ns, rfl, hq, hl, q⟩ := h
  rw [Vals.ref1 r]
  obtain ⟨its, rv, pl, hz⟩ := I.list hq
  have hi : IntsAre its.toArray.toList ns := ints_of_vals rv
  refine call_set_listI ns (I.ok.hd hc) pl.isList hi (by unfold scanBound; omega) fun h' tk c R1 hcn k => ?_
  refine ⟨.ref _, upd H s.heap.objs.size (SetO X.w s.heap.objs.size (fun j => decide (j ∈ ns)) c), I.laid (t' := tk) (fun b u e => k b u e) (Nat.le_refl _) (setO_new R1), rfl, q _ _ (I.hok.fresh (Nat.le_refl _)) hcn⟩
end
end Lx
end

section
set_option Elab.async false
set_option linter.all false
set_option maxRecDepth 100000
set_option maxHeartbeats 4000000
/-! Data, promises, the first small defs. -/
namespace Fair
open PySem PySem.Spec L2 FM
/-! ### how a heap grows -/
structure Gr (H H' : Hp) : Prop where
  kp : ∀ b o, H b = some o → (∀ ps, o ≠ .tbl ps) → H' b = some o
  tb : ∀ b, GxR.TabG H b → GxR.TabG H' b
  fr : ∀ b, H' b = none → H b = none
theorem Gr.refl (H : Hp) : Gr H H := ⟨fun _ _ e _ => e, fun _ e => e, fun _ e => e⟩
theorem Gr.trans {H H1 H2 : Hp} (a : Gr H H1) (b : Gr H1 H2) : Gr H H2 := ⟨fun c o e n => b.kp c o (a.kp c o e n) n, fun c e => b.tb c (a.tb c e), fun c e => a.fr c (b.fr c e)⟩
theorem Gr.of {H H' : Hp} (s : Same H H') : Gr H H' := ⟨fun c o e _ => s c o e, fun c ⟨ps, e, t⟩ => ⟨ps, s _ _ e, t⟩, fun c e => s.free e⟩
theorem Gr.upd {H H1 : Hp} {p : Addr} {o : HO} (a : Gr H H1) (h : H1 p = none) : Gr H (upd H1 p o) := a.trans (.of fun b u e => by rw [upd_ne (ne_of_none e h)]; exact e)
theorem Gr.tab {H H' : Hp} {P : Addr} (h : GxR.TabG H P) (t : GxR.Tabbed P H H') : Gr H H' := by
  refine ⟨fun b o e n => ?_, fun b e => ?_, fun b e => ?_⟩
  · by_cases hb : b = P
    · obtain ⟨ps, e2, _⟩ := h
      rw [hb, e2] at e
      exact absurd (Option.some.inj e).symm (n ps)
    · rw [t.2 b hb]; exact e
  · by_cases hb : b = P
    · rw [hb]; exact t.1
    · obtain ⟨ps, e2, q⟩ := e
      exact ⟨ps, by rw [t.2 b hb]; exact e2, q⟩
  · by_cases hb : b = P
    · obtain ⟨⟨ps, e2, _⟩, _⟩ := t
      rw [hb, e2] at e
      cases e
    · rw [← t.2 b hb]; exact e
theorem Gr.seqL {K : PySem.W.Frag} {H H' : Hp} {a : Addr} {xs : List V} (e : Gr H H') (h : SqL K H a xs) : SqL K H' a xs := by
  rcases h with (h | ⟨o, h⟩) | h
  · exact .inl (.inl (e.kp _ _ h fun ps z => by cases z))
  · exact .inl (.inr ⟨o, e.kp _ _ h fun ps z => by cases z⟩)
  · exact .inr h
theorem Gr.seqT {K : PySem.W.Frag} {H H' : Hp} {a : Addr} {xs : List V} (e : Gr H H') (h : SqT K H a xs) : SqT K H' a xs := by
  rcases h with (h | ⟨o, h⟩) | h
  · exact .inl (.inl (e.kp _ _ h fun ps z => by cases z))
  · exact .inl (.inr ⟨o, e.kp _ _ h fun ps z => by cases z⟩)
  · exact .inr h
theorem Gr.ty {K : PySem.W.Frag} {H H' : Hp} {x : V} {t : Value} (e : Gr H H') (h : TyX K H x t) : TyX K H' x t := by
  have k : ∀ (b : Addr) (o : HO), H b = some o → (∀ ps, o ≠ .tbl ps) → H' b = some o := e.kp
  cases h with
  | base h =>
    refine .base ?_
    cases h with
    | non => exact .non
    | bl x => exact .bl x
    | int i => exact .int i
    | str x => exact .str x
    | flt x => exact .flt x
    | lst e => exact .lst (k _ _ e fun ps z => by cases z)
    | frz e => exact .frz (k _ _ e fun ps z => by cases z)
    | tup e => exact .tup (k _ _ e fun ps z => by cases z)
    | dK e => exact .dK (k _ _ e fun ps z => by cases z)
    | dT e => exact .dT (k _ _ e fun ps z => by cases z)
    | ins e cl ha hn htk hm => exact .ins (k _ _ e fun ps z => by cases z) cl ha hn htk hm
  | byt b => exact .byt b
  | set e => exact .set (k _ _ e fun ps z => by cases z)
  | kList e c => exact .kList e c
  | kTuple e c => exact .kTuple e c
  | kDict e c => exact .kDict e c
  | fTuple e => exact .fTuple (k _ _ e fun ps z => by cases z)
  | fDict e => exact .fDict (k _ _ e fun ps z => by cases z)
/-- the rule for a def from which no exception comes -/
theorem okN {P : Program} {w : World} {K : PySem.W.Frag} {mg : Str → Option Value} {base : Heap} {x qual : Str} {st : Stmt} {f : Addr} {fd : FuncData} {N ps : List Str} {k : Nat} {sp : Sp} (F : FnP K x qual st f fd) (S : FnScope N ps (defScope st)) (len : ∀ vs H Q E, sp vs H Q E → vs.length = ps.length)
    (hbody : ∀ (cdv : Value) (A : Around) (outer : List Env) (s : Shared) (H : Hp) (vs : List V) (Q : VK) (E : XK), Room k (A.deeper (PyProof.Rows.envOfC qual (defScope st) s.heap.objs.size f cdv)) → sp vs H Q E →
      ∃ t, PSs (cxOf CX0 P w K mg base N qual (defScope st) f cdv A outer s H E).nox (defBody st) t ∧ t { nx := fun _ H' => Q .non H', rt := Q } (start N vs) H) : FnOk P w K mg base CX0 (k + 1) f fd ps sp :=
  F.ok S len fun cdv A outer s H vs Q E hr h => let ⟨t, h1, q⟩ := hbody cdv A outer s H vs Q E hr h; ⟨t, h1.nox, q⟩
/-- the same with the code object known -/
theorem okC {P : Program} {w : World} {K : PySem.W.Frag} {mg : Str → Option Value} {base : Heap} {x qual : Str} {st : Stmt} {f : Addr} {fd : FuncData} {N ps : List Str} {k : Nat} {sp : Sp} {c : Addr} (F : FnP K x qual st f fd) (hcv : fd.code = .ref c) (S : FnScope N ps (defScope st)) (len : ∀ vs H Q E, sp vs H Q E → vs.length = ps.length)
    (hbody : ∀ (A : Around) (outer : List Env) (s : Shared) (H : Hp) (vs : List V) (Q : VK) (E : XK), Room k (A.deeper (PyProof.Rows.envOfC qual (defScope st) s.heap.objs.size f (.ref c))) → sp vs H Q E →
      ∃ t, PSs (cxOf CX0 P w K mg base N qual (defScope st) f (.ref c) A outer s H E).nox (defBody st) t ∧ t { nx := fun _ H' => Q .non H', rt := Q } (start N vs) H) : FnOk P w K mg base CX0 (k + 1) f fd ps sp := by
  obtain ⟨oc, od, dV, kV, doc, pm, an, cdv, ct, osl, rfl, lk, hcd, _, _⟩ := F.ex
  obtain rfl : cdv = .ref c := hcv
  refine fn_of lk hcd S len fun A outer s H vs Q E hr hsp => ?_
  obtain ⟨t, h1, q⟩ := hbody A outer s H vs Q E hr hsp
  exact ⟨t, h1.nox, q⟩
/-! ### data -/
/-- a plain entry of a row -/
def At : V → Prop
  | .int _ => True
  | .bl _ => True
  | .str z => z = ("0" : Str)
  | _ => False
abbrev Row := Option (List V)
abbrev Val := Option (List Row)
/-- the type of what is no tuple -/
def NoTup (K : PySem.W.Frag) (H : Hp) (x : V) : Prop := ∃ t, TyX K H x (.type t) ∧ kitB t "tuple" = some false
inductive RowAt (K : PySem.W.Frag) (H : Hp) : V → Row → Prop
  | tup {a : Addr} {es : List V} (h : SqT K H a es) (t : TyX K H (.ref a) (.type "tuple")) (at_ : ∀ e ∈ es, At e) (l : es.length ≤ 64) : RowAt K H (.ref a) (some es)
  | no {x : V} (h : NoTup K H x) : RowAt K H x none
inductive ValAt (K : PySem.W.Frag) (H : Hp) : V → Val → Prop
  | tup {a : Addr} {xs : List V} {rs : List Row} (h : SqT K H a xs) (t : TyX K H (.ref a) (.type "tuple")) (r : Paired (RowAt K H) xs rs) (l : xs.length ≤ 200) : ValAt K H (.ref a) (some rs)
  | no {x : V} (h : NoTup K H x) : ValAt K H x none
inductive PairAt (K : PySem.W.Frag) (H : Hp) : V → Nat × Nat → Prop
  | mk {a : Addr} {c g : Nat} (h : SqT K H a [.int (c : Nat), .int (g : Nat)]) (t : TyX K H (.ref a) (.type "tuple")) : PairAt K H (.ref a) (c, g)
inductive PairsAt (K : PySem.W.Frag) (H : Hp) : V → PR → Prop
  | mk {a : Addr} {xs : List V} {ps : PR} (h : SqT K H a xs) (t : TyX K H (.ref a) (.type "tuple")) (p : Paired (PairAt K H) xs ps) : PairsAt K H (.ref a) ps
theorem paired_map {α β : Type} {R S : α → β → Prop} (h : ∀ a b, R a b → S a b) : ∀ {xs : List α} {ys : List β}, Paired R xs ys → Paired S xs ys
  | _, _, .nil => .nil
  | _, _, .cons r t => .cons (h _ _ r) (paired_map h t)
theorem paired_len {α β : Type} {R : α → β → Prop} : ∀ {xs : List α} {ys : List β}, Paired R xs ys → xs.length = ys.length
  | _, _, .nil => rfl
  | _, _, .cons _ t => by rw [List.length_cons, List.length_cons, paired_len t]
theorem paired_at {α β : Type} {R : α → β → Prop} : ∀ {xs : List α} {ys : List β} {i : Nat} {x : α}, Paired R xs ys → xs[i]? = some x → ∃ y, ys[i]? = some y ∧ R x y
  | _, _, i, x, .nil, h => by simp at h
  | _, _, 0, x, .cons r t, h => by
    simp at h
    subst h
    exact ⟨_, rfl, r⟩
  | _, _, i + 1, x, .cons r t, h => by
    rw [List.getElem?_cons_succ] at h
    obtain ⟨y, e, q⟩ := paired_at t h
    exact ⟨y, by rw [List.getElem?_cons_succ]; exact e, q⟩
theorem paired_atR {α β : Type} {R : α → β → Prop} : ∀ {xs : List α} {ys : List β} {i : Nat} {y : β}, Paired R xs ys → ys[i]? = some y → ∃ x, xs[i]? = some x ∧ R x y
  | _, _, i, x, .nil, h => by simp at h
  | _, _, 0, x, .cons r t, h => by
    simp at h
    subst h
    exact ⟨_, rfl, r⟩
  | _, _, i + 1, x, .cons r t, h => by
    rw [List.getElem?_cons_succ] at h
    obtain ⟨y, e, q⟩ := paired_atR t h
    exact ⟨y, by rw [List.getElem?_cons_succ]; exact e, q⟩
section
variable {K : PySem.W.Frag} {H H' : Hp}
theorem Gr.noTup (g : Gr H H') {x : V} (h : NoTup K H x) : NoTup K H' x := let ⟨t, a, b⟩ := h; ⟨t, g.ty a, b⟩
theorem Gr.row (g : Gr H H') {x : V} {r : Row} (h : RowAt K H x r) : RowAt K H' x r := by
  cases h with
  | tup h t a l => exact .tup (g.seqT h) (g.ty t) a l
  | no h => exact .no (g.noTup h)
theorem Gr.val (g : Gr H H') {x : V} {r : Val} (h : ValAt K H x r) : ValAt K H' x r := by
  cases h with
  | tup h t r l => exact .tup (g.seqT h) (g.ty t) (paired_map (fun _ _ q => g.row q) r) l
  | no h => exact .no (g.noTup h)
theorem Gr.pair (g : Gr H H') {x : V} {r : Nat × Nat} (h : PairAt K H x r) : PairAt K H' x r := by
  cases h with
  | mk h t => exact .mk (g.seqT h) (g.ty t)
theorem Gr.pairs (g : Gr H H') {x : V} {r : PR} (h : PairsAt K H x r) : PairsAt K H' x r := by
  cases h with
  | mk h t p => exact .mk (g.seqT h) (g.ty t) (paired_map (fun _ _ q => g.pair q) p)
end
/-- good pairs -/
structure OkPs (ps : PR) : Prop where
  l1 : 1 ≤ ps.length
  l4 : ps.length ≤ 4
  ok : ∀ p ∈ ps, 1 ≤ p.1 ∧ p.1 ≤ p.2 ∧ p.2 ≤ 12
/-- the entries of a row as indices -/
def inB (x : V) (lo hi : Int) : Bool := match x with
  | .int i => decide (lo ≤ i) && decide (i ≤ hi)
  | _ => false
/-! ### promises -/
def spIsIn : Sp := fun vs H Q _ => ∃ (x : V) (lo hi : Int), vs = [x, .int lo, .int hi] ∧ At x ∧ Q (.bl (inB x lo hi)) H
def spNeedMach : Sp := fun vs H Q _ => ∃ m : Nat, vs = [.int (m : Nat)] ∧ 1 ≤ m ∧ m ≤ 4 ∧ Q .non H
def spIsPair (K : PySem.W.Frag) : Sp := fun vs H Q _ => ∃ (x : V) (p : Nat × Nat), vs = [x] ∧ PairAt K H x p ∧ (1 ≤ p.1 ∧ p.1 ≤ p.2 ∧ p.2 ≤ 12) ∧ Q (.bl true) H
def spNeedPairs (K : PySem.W.Frag) : Sp := fun vs H Q _ => ∃ (x : V) (ps : PR), vs = [x] ∧ PairsAt K H x ps ∧ OkPs ps ∧ ∀ H', Same H H' → Q .non H'
def spNeedFair (K : PySem.W.Frag) : Sp := fun vs H Q _ => ∃ (x : V) (ps : PR) (m : Nat), vs = [x, .int (m : Nat)] ∧ PairsAt K H x ps ∧ OkPs ps ∧ 1 ≤ m ∧ m ≤ 4 ∧ ∀ H', Same H H' → Q .non H'
/-- the facts of the text -/
structure Tx (mg : Str → Option Value) : Prop where
  isi : mg "isinstance" = none
  int : mg "int" = none
  bool : mg "bool" = none
  tuple : mg "tuple" = none
  list : mg "list" = none
  str : mg "str" = none
  all : mg "all" = none
  len : mg "len" = none
  range : mg "range" = none
  enum : mg "enumerate" = none
  sum : mg "sum" = none
  sorted : mg "sorted" = none
  set : mg "set" = none
  max : mg "max" = none
  abs : mg "abs" = none
  lcm : mg "lcm" = some (.builtin "math.lcm")
  mm : ∃ t, mg "MOST_MACHINES" = some (.int 4 t)
  mp : ∃ t, mg "MOST_PAIRS" = some (.int 4 t)
  mgp : ∃ t, mg "MOST_GAP" = some (.int 12 t)
  mf : ∃ t, mg "MOST_FAIR" = some (.int 60 t)
section
variable {P : Program} {w : World} {K : PySem.W.Frag} {mg : Str → Option Value} {base : Heap} {f : Addr} {fd : FuncData}
theorem scIsIn : FnScope ["value", "least", "most"] ["value", "least", "most"] (defScope sIsIn) := ⟨rfl, rfl, rfl, by decide +kernel, rfl, by decide +kernel, by decide +kernel⟩
theorem ok_isIn (F : FnP K "is_in" "is_in" sIsIn f fd) (T : Tx mg) : FnOk P w K mg base CX0 1 f fd ["value", "least", "most"] spIsIn := by
  refine F.ok scIsIn (fun vs H Q E h => ?_) (fun cdv A outer s H vs Q E hr h => ?_)
  · obtain ⟨x, lo, hi, rfl, _⟩ := h
    rfl
  · obtain ⟨x, lo, hi, rfl, hx, k⟩ := h
    refine ⟨_, pss_one (ps_ret (pe_and (pe_callB call_isi rfl T.isi PyProof.Rows.boot_isinstance (pa_cons (pv 0) (pa_cons (pe_bltn (v := .ty "int") rfl T.int PyProof.Rows.boot_int rfl) pa_nil)))
      (pe_and (pe_not (pe_callB call_isi rfl T.isi PyProof.Rows.boot_isinstance (pa_cons (pv 0) (pa_cons (pe_bltn (v := .ty "bool") rfl T.bool PyProof.Rows.boot_bool rfl) pa_nil))))
      (pe_one (pe_chain op_le op_le (pv 1) (pv 0) (pv 2)))))), ?_⟩
    cases x with
    | int i =>
      refine ⟨_, rfl, _, _, _, _, true, rfl, .ty _, .base (.int i), kit_ty (by decide +kernel), true, rfl, iteT ?_⟩
      refine ⟨_, rfl, _, _, _, _, false, rfl, .ty _, .base (.int i), kit_ty (by decide +kernel), false, rfl, true, rfl, iteT ?_⟩
      refine ⟨_, rfl, _, rfl, _, _, rfl, rfl, _, rfl, ?_⟩
      show if decide (lo ≤ i) = true then _ else _
      have k' : Q (.bl (decide (lo ≤ i) && decide (i ≤ hi))) H := k
      cases e : decide (lo ≤ i) with
      | true =>
        rw [e, Bool.true_and] at k'
        exact iteT ⟨_, rfl, _, _, rfl, rfl, k'⟩
      | false =>
        rw [e, Bool.false_and] at k'
        exact iteF k'
    | bl b =>
      refine ⟨_, rfl, _, _, _, _, true, rfl, .ty _, .base (.bl b), kit_ty (by decide +kernel), true, rfl, iteT ?_⟩
      exact ⟨_, rfl, _, _, _, _, true, rfl, .ty _, .base (.bl b), kit_ty (by decide +kernel), true, rfl, false, rfl, iteF k⟩
    | str z => exact ⟨_, rfl, _, _, _, _, false, rfl, .ty _, .base (.str z), kit_ty (by decide +kernel), false, rfl, iteF k⟩
    | _ => exact hx.elim
theorem scNeedMach : FnScope ["machines"] ["machines"] (defScope sNeedMach) := ⟨rfl, rfl, rfl, by decide +kernel, rfl, by decide +kernel, by decide +kernel⟩
theorem ok_needMach {f1 : Addr} {fd1 : FuncData} (F : FnP K "need_machines" "need_machines" sNeedMach f fd) (T : Tx mg) (G : FnOk P w K mg base CX0 1 f1 fd1 ["value", "least", "most"] spIsIn) (g1 : mg "is_in" = some (.ref f1)) (kp : PySem.W.keepIn K (.ref f1) = true) (b : Binds K fd1 ["value", "least", "most"] []) :
    FnOk P w K mg base CX0 2 f fd ["machines"] spNeedMach := by
  refine F.ok scNeedMach (fun vs H Q E h => ?_) (fun cdv A outer s H vs Q E hr h => ?_)
  · obtain ⟨m, rfl, _⟩ := h
    rfl
  · obtain ⟨m, rfl, h1, h4, k⟩ := h
    obtain ⟨t, mm⟩ := T.mm
    refine ⟨_, pss_one (ps_if (pt_not (pt_val (pe_call G hr rfl g1 kp b .nil pass0 (pa_cons (pv 0) (pa_cons pe_int (pa_cons (pe_glob (v := .int 4) rfl mm ⟨t, rfl⟩) pa_nil)))))) (pss_one ps_never) pss_nil), ?_⟩
    refine ⟨_, rfl, _, _, _, rfl, trivial, true, ?_, iteF ?_⟩
    · show V.bl (decide (1 ≤ (m : Int)) && decide ((m : Int) ≤ 4)) = .bl true
      rw [decide_eq_true (by omega), decide_eq_true (by omega)] <;> rfl
    · exact k
theorem scIsPair : FnScope ["value"] ["value"] (defScope sIsPair) := ⟨rfl, rfl, rfl, by decide +kernel, rfl, by decide +kernel, by decide +kernel⟩
theorem ok_isPair {f1 : Addr} {fd1 : FuncData} (F : FnP K "is_pair" "is_pair" sIsPair f fd) (T : Tx mg) (G : FnOk P w K mg base CX0 1 f1 fd1 ["value", "least", "most"] spIsIn) (g1 : mg "is_in" = some (.ref f1)) (kp : PySem.W.keepIn K (.ref f1) = true) (b : Binds K fd1 ["value", "least", "most"] []) :
    FnOk P w K mg base CX0 2 f fd ["value"] (spIsPair K) := by
  refine F.ok scIsPair (fun vs H Q E h => ?_) (fun cdv A outer s H vs Q E hr h => ?_)
  · obtain ⟨x, p, rfl, _⟩ := h
    rfl
  · obtain ⟨x, p, rfl, hp, ⟨h1, h2, h3⟩, k⟩ := h
    obtain ⟨t, mgp⟩ := T.mgp
    cases hp with
    | @mk a c g hq ht =>
      refine ⟨_, pss_cons (ps_if (PW.pt (pw_or (pt_not (pt_val (pe_callB call_isi rfl T.isi PyProof.Rows.boot_isinstance (pa_cons (pv 0) (pa_cons (pe_bltn (v := .ty "tuple") rfl T.tuple (by decide +kernel) rfl) pa_nil)))))
        (pw_or (pt_cmpR op_ne (pe_callB call_len_seq rfl T.len PySem.boot_len (pa_cons (pv 0) pa_nil)) pe_int (nomark _))
        (pw_or1 (pt_not (pt_val (pe_call G hr rfl g1 kp b .nil pass0 (pa_cons (pe_ix ix_tup (pv 0) pe_int (fun _ _ => rfl)) (pa_cons pe_int (pa_cons (pe_glob (v := .int 12) rfl mgp ⟨t, rfl⟩) pa_nil)))))))))) (pss_one (ps_ret pe_bl)) pss_nil)
        (pss_one (ps_ret (pe_call G hr rfl g1 kp b .nil pass0 (pa_cons (pe_ix ix_tup (pv 0) pe_int (fun _ _ => rfl)) (pa_cons pe_int (pa_cons (pe_ix ix_tup (pv 0) pe_int (fun _ _ => rfl)) pa_nil)))))), ?_⟩
      refine ⟨_, rfl, _, _, _, _, true, rfl, .ty _, ht, kit_ty (by decide +kernel), true, rfl, iteF ?_⟩
      refine ⟨_, rfl, a, _, rfl, .inr hq, rfl, _, rfl, iteF ?_⟩
      refine ⟨_, rfl, a, _, _, _, rfl, rfl, hq, rfl, _, _, _, rfl, trivial, true, ?_, iteF ?_⟩
      · show V.bl (decide (1 ≤ (g : Int)) && decide ((g : Int) ≤ 12)) = .bl true
        simp only at h1 h2 h3
        rw [decide_eq_true (by omega), decide_eq_true (by omega)] <;> rfl
      · refine ⟨_, rfl, a, _, _, _, rfl, rfl, hq, rfl, _, rfl, a, _, _, _, rfl, rfl, hq, rfl, _, _, _, rfl, trivial, ?_⟩
        have e : (V.bl (inB (.int (c : Nat)) 1 (g : Nat))) = .bl true := by
          show V.bl (decide (1 ≤ (c : Int)) && decide ((c : Int) ≤ (g : Int))) = .bl true
          simp only at h1 h2 h3
          rw [decide_eq_true (by omega), decide_eq_true (by omega)] <;> rfl
        rw [e]
        exact k
end
end Fair
end

section
set_option Elab.async false
set_option linter.all false
set_option maxRecDepth 100000
set_option maxHeartbeats 4000000
namespace Fair
open PySem PySem.Spec L2 FM
/-- the cycle: the least common multiple of the gaps -/
def cycU (ps : PR) (i : Nat) : Nat := (ps.take i).foldl (fun f p => Nat.lcm f p.2) 1
def cyc (ps : PR) : Nat := cycU ps ps.length
theorem cycU_succ {ps : PR} {i : Nat} {p : Nat × Nat} (h : ps[i]? = some p) : cycU ps (i + 1) = Nat.lcm (cycU ps i) p.2 := by
  unfold cycU
  rw [List.take_add_one, h]
  simp
theorem cycU_dvd {ps : PR} : ∀ {i j : Nat}, i ≤ j → cycU ps i ∣ cycU ps j := by
  intro i j h
  induction h with
  | refl => exact Nat.dvd_refl _
  | @step j _ ih =>
    refine Nat.dvd_trans ih ?_
    by_cases hj : j < ps.length
    · rw [cycU_succ (List.getElem?_eq_getElem hj)]
      exact Nat.dvd_lcm_left _ _
    · unfold cycU
      rw [List.take_of_length_le (by omega), List.take_of_length_le (by omega)]
      exact Nat.dvd_refl _
theorem dvd_cyc {ps : PR} {p : Nat × Nat} (h : p ∈ ps) : p.2 ∣ cyc ps := by
  obtain ⟨i, hi, e⟩ := List.getElem_of_mem h
  refine Nat.dvd_trans ?_ (cycU_dvd (i := i + 1) (j := ps.length) hi)
  rw [cycU_succ (List.getElem?_eq_getElem hi), e]
  exact Nat.dvd_lcm_right _ _
theorem cyc_least {ps : PR} {m : Nat} (h : ∀ p ∈ ps, p.2 ∣ m) : cyc ps ∣ m := by
  have : ∀ i, i ≤ ps.length → cycU ps i ∣ m := by
    intro i
    induction i with
    | zero => intro _; exact Nat.one_dvd _
    | succ i ih =>
      intro hi
      rw [cycU_succ (List.getElem?_eq_getElem hi)]
      exact Nat.lcm_dvd (ih (by omega)) (h _ (List.getElem_mem _))
  exact this _ (Nat.le_refl _)
theorem cycU_pos {ps : PR} (ok : ∀ p ∈ ps, 0 < p.2) : ∀ i, i ≤ ps.length → 0 < cycU ps i := by
  intro i
  induction i with
  | zero => intro _; exact Nat.zero_lt_one
  | succ i ih =>
    intro hi
    rw [cycU_succ (List.getElem?_eq_getElem hi)]
    exact Nat.lcm_pos (ih (by omega)) (ok _ (List.getElem_mem _))
/-- good pairs with a short cycle -/
structure OkC (ps : PR) : Prop extends OkPs ps where
  cy : cyc ps ≤ 60
theorem OkC.pos {ps : PR} (o : OkC ps) : 0 < cyc ps := cycU_pos (fun p h => by have := o.ok p h; omega) _ (Nat.le_refl _)
def spCycle (K : PySem.W.Frag) : Sp := fun vs H Q _ => ∃ (x : V) (ps : PR), vs = [x] ∧ PairsAt K H x ps ∧ OkC ps ∧ Q (.int (cyc ps : Nat)) H
section
variable {P : Program} {w : World} {K : PySem.W.Frag} {mg : Str → Option Value} {base : Heap} {f : Addr} {fd : FuncData}
theorem scNeedPairs : FnScope ["pairs", "index", "pair"] ["pairs"] (defScope sNeedPairs) := ⟨rfl, rfl, rfl, by decide +kernel, rfl, by decide +kernel, by decide +kernel⟩
theorem ok_needPairs {f1 : Addr} {fd1 : FuncData} (F : FnP K "need_pairs" "need_pairs" sNeedPairs f fd) (T : Tx mg) (G : FnOk P w K mg base CX0 2 f1 fd1 ["value"] (spIsPair K)) (g1 : mg "is_pair" = some (.ref f1)) (kp : PySem.W.keepIn K (.ref f1) = true) (b : Binds K fd1 ["value"] []) :
    FnOk P w K mg base CX0 3 f fd ["pairs"] (spNeedPairs K) := by
  refine okN F scNeedPairs (fun vs H Q E h => ?_) (fun cdv A outer s H vs Q E hr h => ?_)
  · obtain ⟨x, ps, rfl, _⟩ := h
    rfl
  · obtain ⟨x, ps, rfl, hp, ok, k⟩ := h
    obtain ⟨t, mp⟩ := T.mp
    cases hp with
    | @mk a xs _ hq ht hpp =>
      have hl := paired_len hpp
      refine ⟨_, pss_cons (ps_if (PW.pt (pw_or (pt_not (pt_val (pe_callB call_isi rfl T.isi PyProof.Rows.boot_isinstance (pa_cons (pv 0) (pa_cons (pe_bltn (v := .ty "tuple") rfl T.tuple (by decide +kernel) rfl) pa_nil)))))
        (pw_or1 (pt_not (pt_chain op_le op_le pe_int (pe_callB call_len_seq rfl T.len PySem.boot_len (pa_cons (pv 0) pa_nil)) (pe_glob (v := .int 4) rfl mp ⟨t, rfl⟩)))))) (pss_one ps_never) pss_nil)
        (pss_one (ps_for PassesOwn.never rfl (Lx.pi_enumT rfl T.enum (pa_cons (pv 0) pa_nil)) (pg_tup (by rfl) (pgs_cons (pg_name (i := 1) scNeedPairs.nd rfl (.inl rfl)) (pgs_cons (pg_name (i := 2) scNeedPairs.nd rfl (.inl rfl)) pgs_nil)))
          (pss_one (ps_if (pt_not (pt_val (pe_call G hr rfl g1 kp b .nil pass0 (pa_cons (pv 2) pa_nil)))) (pss_one ps_never) pss_nil)))), ?_⟩
      refine ⟨_, rfl, _, _, _, _, true, rfl, .ty _, ht, kit_ty (by decide +kernel), true, rfl, iteF ?_⟩
      have e1 : decide (1 ≤ (xs.length : Int)) = true := decide_eq_true (by have := ok.l1; omega)
      have e2 : decide ((xs.length : Int) ≤ 4) = true := decide_eq_true (by have := ok.l4; omega)
      refine ⟨_, rfl, a, _, rfl, .inr hq, _, _, rfl, rfl, _, rfl, ?_⟩
      rw [e1]
      refine iteT ⟨_, _, rfl, rfl, _, rfl, ?_⟩
      rw [e2]
      refine iteF ?_
      refine ⟨_, rfl, a, xs, rfl, hq, Lx.for_enumT (fun i σ H2 => ∃ v1 v2, σ = [some (.ref a), v1, v2] ∧ Same H H2) ⟨_, _, rfl, Same.refl H⟩ (fun i σ H2 _ ⟨_, _, _, s⟩ => (Gr.of s).seqT hq) ?_ ?_⟩
      · rintro i x T' σ H2 hi ⟨v1, v2, rfl, s2⟩ hT
        have s3 : Same H (upd H2 T' (.tup [.int (i : Nat), x])) := fun c o e => by rw [upd_ne (ne_of_none (s2 c o e) hT)]; exact s2 c o e
        obtain ⟨y, hy, py⟩ := paired_at hpp hi
        refine ⟨T', _, rfl, SqT.of upd_same, rfl, _, _, rfl, _, _, rfl, rfl, ?_⟩
        refine ⟨_, rfl, _, _, rfl, (Gr.of s3).pair py, ok.ok y (List.mem_of_getElem? hy), true, rfl, iteF ?_⟩
        exact ⟨_, _, rfl, s3⟩
      · rintro σ H2 ⟨v1, v2, rfl, s2⟩
        exact k H2 s2
theorem scNeedFair : FnScope ["pairs", "machines"] ["pairs", "machines"] (defScope sNeedFair) := ⟨rfl, rfl, rfl, by decide +kernel, rfl, by decide +kernel, by decide +kernel⟩
theorem ok_needFair {f1 f2 : Addr} {fd1 fd2 : FuncData} (F : FnP K "need_fair" "need_fair" sNeedFair f fd)
    (G1 : FnOk P w K mg base CX0 3 f1 fd1 ["pairs"] (spNeedPairs K)) (g1 : mg "need_pairs" = some (.ref f1)) (kp1 : PySem.W.keepIn K (.ref f1) = true) (b1 : Binds K fd1 ["pairs"] [])
    (G2 : FnOk P w K mg base CX0 2 f2 fd2 ["machines"] spNeedMach) (g2 : mg "need_machines" = some (.ref f2)) (kp2 : PySem.W.keepIn K (.ref f2) = true) (b2 : Binds K fd2 ["machines"] []) :
    FnOk P w K mg base CX0 4 f fd ["pairs", "machines"] (spNeedFair K) := by
  refine okN F scNeedFair (fun vs H Q E h => ?_) (fun cdv A outer s H vs Q E hr h => ?_)
  · obtain ⟨x, ps, m, rfl, _⟩ := h
    rfl
  · obtain ⟨x, ps, m, rfl, hp, ok, h1, h4, k⟩ := h
    refine ⟨_, pss_cons (ps_expr (pe_call G1 hr rfl g1 kp1 b1 .nil pass0 (pa_cons (pv 0) pa_nil))) (pss_one (ps_expr (pe_call G2 (hr.mono (by decide)) rfl g2 kp2 b2 .nil pass0 (pa_cons (pv 1) pa_nil)))), ?_⟩
    refine ⟨_, rfl, _, ps, rfl, hp, ok, fun H' s => ?_⟩
    exact ⟨_, rfl, m, rfl, h1, h4, k H' s⟩
theorem scCycle : FnScope ["pairs", "found", "cost", "gap"] ["pairs"] (defScope sCycle) := ⟨rfl, rfl, rfl, by decide +kernel, rfl, by decide +kernel, by decide +kernel⟩
theorem ok_cycle (F : FnP K "cycle_of" "cycle_of" sCycle f fd) (T : Tx mg) : FnOk P w K mg base CX0 1 f fd ["pairs"] (spCycle K) := by
  refine okN F scCycle (fun vs H Q E h => ?_) (fun cdv A outer s H vs Q E hr h => ?_)
  · obtain ⟨x, ps, rfl, _⟩ := h
    rfl
  · obtain ⟨x, ps, rfl, hp, ok, k⟩ := h
    obtain ⟨t, mf⟩ := T.mf
    cases hp with
    | @mk a xs _ hq ht hpp =>
      have hl := paired_len hpp
      refine ⟨_, pss_cons (ps_set (i := 1) scCycle.nd rfl (.inl rfl) pe_int)
        (pss_cons (ps_for PassesOwn.never rfl (pi_tup (pv 0)) (pg_tup (by rfl) (pgs_cons (pg_name (i := 2) scCycle.nd rfl (.inl rfl)) (pgs_cons (pg_name (i := 3) scCycle.nd rfl (.inl rfl)) pgs_nil)))
          (pss_one (ps_set (i := 1) scCycle.nd rfl (.inl rfl) (pe_callBfun Lx.cr_lcm rfl T.lcm (pa_cons (pv 1) (pa_cons (pv 3) pa_nil))))))
        (pss_cons (ps_if (pt_cmpR op_gt (pv 1) (pe_glob (v := .int 60) rfl mf ⟨t, rfl⟩) (nomark _)) (pss_one ps_never) pss_nil)
        (pss_one (ps_ret (pv 1))))), ?_⟩
      refine ⟨_, rfl, a, rfl, ⟨_, hq⟩, for_tup (K := K) (a := a) (xs := xs) (fun i σ H2 => ∃ v2 v3, σ = [some (.ref a), some (.int (cycU ps i : Nat)), v2, v3] ∧ H2 = H) ⟨_, _, rfl, rfl⟩ (fun i σ H2 _ ⟨_, _, _, s⟩ => by rw [s]; exact hq) ?_ ?_⟩
      · rintro i x σ H2 hi ⟨v2, v3, rfl, rfl⟩
        obtain ⟨y, hy, py⟩ := paired_at hpp hi
        have hil : i < ps.length := (List.getElem?_eq_some_iff.mp hy).1
        cases py with
        | @mk b c g hb hbt =>
          have okp := ok.ok _ (List.mem_of_getElem? hy)
          have hc : cycU ps i ≤ 60 := Nat.le_trans (Nat.le_of_dvd ok.pos (cycU_dvd (Nat.le_of_lt hil))) ok.cy
          refine ⟨b, _, rfl, hb, rfl, _, _, rfl, _, _, rfl, rfl, ?_⟩
          refine ⟨_, rfl, _, rfl, _, _, rfl, ?_, ?_, ?_⟩
          · rw [Int.natAbs_natCast]; omega
          · rw [Int.natAbs_natCast]; simp only at okp; omega
          · refine ⟨some (.int (c : Nat)), some (.int (g : Nat)), ?_, rfl⟩
            rw [cycU_succ hy, Int.natAbs_natCast, Int.natAbs_natCast] <;> rfl
      · rintro σ H2 ⟨v2, v3, rfl, rfl⟩
        have e : decide ((cycU ps xs.length : Int) > 60) = false := decide_eq_false (by have := ok.cy; unfold cyc at this; rw [hl]; omega)
        refine ⟨_, rfl, _, _, rfl, rfl, _, rfl, ?_⟩
        show if decide ((cycU ps xs.length : Int) > 60) = true then _ else _
        rw [e]
        refine iteF ⟨_, rfl, ?_⟩
        have k' := k
        unfold cyc at k'
        rw [← hl] at k'
        exact k'
end
end Fair
end

section
set_option Elab.async false
set_option linter.all false
set_option maxRecDepth 100000
set_option maxHeartbeats 4000000
namespace Fair
open PySem PySem.Spec L2 FM
/-! ### is_rising -/
theorem turns_tup {K : PySem.W.Frag} {a : Addr} {xs : List V} {g : TG} {te : TE} {vs : List Nat} {σ : L2.St} {f : Nat → V} {W : Nat → Hp → Prop} (hl : ∀ i H, W i H → SqT K H a xs)
    (hs : ∀ i x H, xs[i]? = some x → W i H → g x (wipe σ vs) H fun σ2 H3 => wipe σ2 vs = wipe σ vs ∧ te σ2 H3 fun v H4 => v = f i ∧ W (i + 1) H4) : Gx.Turns (Itt K a) g te vs σ xs.length f W := by
  refine ⟨fun i hi H w => ⟨⟨xs, xs[i], hl i H w, by simp [hi]⟩, fun x H' y => ?_⟩, fun H w => ⟨xs, hl _ H w, Nat.le_refl _⟩⟩
  obtain ⟨rfl, y⟩ := y
  exact hs i x _ (y xs (hl i _ w)) w
theorem turns_range {lo : Int} {n : Nat} {g : TG} {te : TE} {vs : List Nat} {σ : L2.St} {f : Nat → V} {W : Nat → Hp → Prop}
    (hs : ∀ i H, i < n → W i H → g (.int (lo + i)) (wipe σ vs) H fun σ2 H3 => wipe σ2 vs = wipe σ vs ∧ te σ2 H3 fun v H4 => v = f i ∧ W (i + 1) H4) : Gx.Turns (Itr lo n) g te vs σ n f W := by
  refine ⟨fun i hi H w => ⟨hi, fun x H' y => ?_⟩, fun H w => Nat.le_refl _⟩
  obtain ⟨rfl, rfl⟩ := y
  exact hs i _ hi w
/-- rising indices below n -/
def RisP (n : Nat) (r : Row) : Prop := ∃ ks : List Nat, r = some (ks.map fun k => V.int (k : Nat)) ∧ ks.Pairwise (· < ·) ∧ ∀ k ∈ ks, k < n
def spRising (K : PySem.W.Frag) (P : Addr) : Sp := fun vs H Q _ => ∃ (x : V) (many : Nat) (r : Row), vs = [x, .int (many : Nat)] ∧ RowAt K H x r ∧ GxR.TabG H P ∧ ∀ b H', (b = true ↔ RisP many r) → Gr H H' → Q (.bl b) H'
theorem inB_iff {x : V} {n : Nat} : inB x 0 ((n : Int) - 1) = true ↔ ∃ k : Nat, x = .int (k : Nat) ∧ k < n := by
  constructor
  · intro h
    cases x with
    | int i =>
      have h' : (decide (0 ≤ i) && decide (i ≤ (n : Int) - 1)) = true := h
      rw [Bool.and_eq_true, decide_eq_true_eq, decide_eq_true_eq] at h'
      exact ⟨i.toNat, by rw [Int.toNat_of_nonneg h'.1], by omega⟩
    | _ => cases h
  · rintro ⟨k, rfl, h⟩
    show (decide (0 ≤ (k : Int)) && decide ((k : Int) ≤ (n : Int) - 1)) = true
    rw [Bool.and_eq_true, decide_eq_true_eq, decide_eq_true_eq]
    omega
theorem ints_of_all {n : Nat} : ∀ {es : List V}, (∀ e ∈ es, inB e 0 ((n : Int) - 1) = true) → ∃ ks : List Nat, es = ks.map (fun k => V.int (k : Nat)) ∧ ∀ k ∈ ks, k < n
  | [], _ => ⟨[], rfl, fun _ h => by simp at h⟩
  | e :: es, h => by
    obtain ⟨k, hk, hn⟩ := inB_iff.mp (h e List.mem_cons_self)
    obtain ⟨ks, hks, hh⟩ := ints_of_all (n := n) fun e he => h e (List.mem_cons_of_mem _ he)
    refine ⟨k :: ks, by rw [hk, hks] <;> rfl, fun j hj => ?_⟩
    rcases List.mem_cons.mp hj with z | z
    · rw [z]; exact hn
    · exact hh j z
theorem pairwise_of_step {ks : List Nat} (h : ∀ i, i + 1 < ks.length → ks.getD i 0 < ks.getD (i + 1) 0) : ks.Pairwise (· < ·) := by
  rw [List.pairwise_iff_getElem]
  intro i j hi hj hij
  have : ∀ d, i + d + 1 < ks.length → ks.getD i 0 < ks.getD (i + d + 1) 0 := by
    intro d
    induction d with
    | zero => intro hd; exact h i hd
    | succ d ih => intro hd; exact Nat.lt_trans (ih (by omega)) (h (i + d + 1) hd)
  have := this (j - i - 1) (by omega)
  rw [show i + (j - i - 1) + 1 = j by omega] at this
  simpa [List.getD_eq_getElem?_getD, hi, hj] using this
theorem step_of_pairwise {ks : List Nat} (h : ks.Pairwise (· < ·)) {i : Nat} (hi : i + 1 < ks.length) : ks.getD i 0 < ks.getD (i + 1) 0 := by
  rw [List.pairwise_iff_getElem] at h
  have := h i (i + 1) (by omega) hi (by omega)
  simpa [List.getD_eq_getElem?_getD, hi, show i < ks.length by omega] using this
theorem intGet (ks : List Nat) (i : Nat) (h : i < ks.length) : (ks.map fun k => V.int (k : Nat))[i]? = some (V.int (ks.getD i 0 : Nat)) := by
  rw [List.getElem?_map, List.getElem?_eq_getElem h, List.getD_eq_getElem?_getD, List.getElem?_eq_getElem h] <;> rfl
section
variable {P : Program} {w : World} {K : PySem.W.Frag} {mg : Str → Option Value} {base : Heap} {f : Addr} {fd : FuncData}
theorem scRising : FnScope ["value", "many", "one", "k"] ["value", "many"] (defScope sRising) := ⟨rfl, rfl, rfl, by decide +kernel, rfl, by decide +kernel, by decide +kernel⟩
theorem ok_rising {c Pt f1 : Addr} {fd1 : FuncData} (F : FnP K "is_rising" "is_rising" sRising f fd) (hcv : fd.code = .ref c) (TB : GxR.TabB base mg c Pt) (T : Tx mg) (G : FnOk P w K mg base CX0 1 f1 fd1 ["value", "least", "most"] spIsIn) (g1 : mg "is_in" = some (.ref f1)) (kp : PySem.W.keepIn K (.ref f1) = true) (b : Binds K fd1 ["value", "least", "most"] []) :
    FnOk P w K mg base CX0 3 f fd ["value", "many"] (spRising K Pt) := by
  refine okC F hcv scRising (fun vs H Q E h => ?_) (fun A outer s H vs Q E hr h => ?_)
  · obtain ⟨x, m, r, rfl, _⟩ := h
    rfl
  · obtain ⟨x, m, r, rfl, hrow, tb, k⟩ := h
    refine ⟨_, pss_cons (ps_if (PW.pt (pw_or (pt_not (pt_val (pe_callB call_isi rfl T.isi PyProof.Rows.boot_isinstance (pa_cons (pv 0) (pa_cons (pe_bltn (v := .ty "tuple") rfl T.tuple (by decide +kernel) rfl) pa_nil)))))
        (pw_or1 (pt_not (pt_val (Gx.pe_allG (k := 1) (own := [("one", 2)]) (g := gName 2) hr rfl rfl T.all TB rfl
          ⟨blkOk_by (own := [("one", 2)]) (N := ["value", "many", "one", "k"]) (sc := defScope sRising) (by decide +kernel), rfl, by decide +kernel, rfl⟩ scRising.nd (pi_tup (pv 0)) (fun _ _ _ _ _ _ _ => pg_name (i := 2) scRising.nd rfl (Or.inl rfl))
          (fun _ _ _ _ _ _ _ hr' => pe_call G hr' rfl g1 kp b .nil pass0 (pa_cons (pv 2) (pa_cons pe_int (pa_cons (pe_op op_sub (pv 1) pe_int) pa_nil)))))))))) (pss_one (ps_ret pe_bl)) pss_nil)
      (pss_one (ps_ret (Gx.pe_allG (k := 1) (own := [("k", 3)]) (g := gName 3) hr rfl rfl T.all TB rfl
          ⟨blkOk_by (own := [("k", 3)]) (N := ["value", "many", "one", "k"]) (sc := defScope sRising) (by decide +kernel), rfl, by decide +kernel, rfl⟩ scRising.nd (pi_range1 rfl T.range (pa_cons (pe_op op_sub (pe_callB call_len_seq rfl T.len PySem.boot_len (pa_cons (pv 0) pa_nil)) pe_int) pa_nil)) (fun _ _ _ _ _ _ _ => pg_name (i := 3) scRising.nd rfl (Or.inl rfl))
          (fun _ _ _ _ _ _ _ hr' => pe_cmpR op_lt (pe_ix (show IxR _ (rIxT K) from ix_tup) (pv 0) (pv 3) (fun _ _ => rfl)) (pe_ix (show IxR _ (rIxT K) from ix_tup) (pv 0) (pe_op op_add (pv 3) pe_int) (fun _ _ => rfl)) (nomark _))))), ?_⟩
    cases hrow with
    | no hno =>
      obtain ⟨t, ty, e⟩ := hno
      refine ⟨_, rfl, _, _, _, _, false, rfl, .ty _, ty, kit_ty e, false, rfl, iteT ?_⟩
      refine k false H ⟨fun z => (by cases z), fun ⟨ks, z, _⟩ => (by cases z)⟩ (Gr.refl H)
    | @tup a es hq ty hat hlen =>
      refine ⟨_, rfl, _, _, _, _, true, rfl, .ty _, ty, kit_ty (by decide +kernel), true, rfl, iteF ?_⟩
      refine ⟨_, rfl, a, rfl, ⟨_, hq⟩, tb, fun H2 tb2 => ?_⟩
      have g2 : Gr H H2 := Gr.tab tb tb2
      refine ⟨es.length, fun i => inB (es.getD i .non) 0 ((m : Int) - 1), fun _ H3 => H3 = H2, rfl, turns_tup (fun _ H3 e => by rw [e]; exact g2.seqT hq) (fun i x H3 hi e => ?_), fun i H3 _ e => ?_⟩
      · subst e
        refine ⟨rfl, _, rfl, _, rfl, _, _, rfl, rfl, _, _, _, rfl, hat x (List.mem_of_getElem? hi), ?_, rfl⟩
        show V.bl (inB x 0 ((m : Int) - 1)) = V.bl (inB (es.getD i .non) 0 ((m : Int) - 1))
        rw [List.getD_eq_getElem?_getD, hi] <;> rfl
      · subst e
        refine ⟨_, rfl, ?_⟩
        cases hb : (List.range es.length).all fun i => inB (es.getD i .non) 0 ((m : Int) - 1) with
        | false =>
          refine iteT (k false H3 ⟨fun z => (by cases z), fun ⟨ks, z, _, hh⟩ => ?_⟩ g2)
          cases z
          rw [← Bool.not_eq_true] at hb
          refine absurd (List.all_eq_true.mpr fun i hi => ?_) hb
          have hil := List.mem_range.mp hi
          rw [List.length_map] at hil
          refine inB_iff.mpr ⟨ks.getD i 0, ?_, hh _ ?_⟩
          · rw [List.getD_eq_getElem?_getD, intGet ks i hil] <;> rfl
          · rw [List.getD_eq_getElem?_getD, List.getElem?_eq_getElem hil]
            exact List.getElem_mem _
        | true =>
          have hall : ∀ e ∈ es, inB e 0 ((m : Int) - 1) = true := fun e he => by
            obtain ⟨i, hi, ei⟩ := List.getElem_of_mem he
            have := List.all_eq_true.mp hb i (List.mem_range.mpr hi)
            rw [List.getD_eq_getElem?_getD, List.getElem?_eq_getElem hi, ei] at this
            exact this
          obtain ⟨ks, rfl, hh⟩ := ints_of_all hall
          rw [List.length_map] at hlen
          refine iteF ?_
          refine ⟨_, rfl, a, _, rfl, .inr (g2.seqT hq), _, _, rfl, rfl, _, rfl, by rw [List.length_map]; omega, by rw [List.length_map]; omega, ?_⟩
          refine ⟨tb2.1, fun H4 tb4 => ?_⟩
          have g4 : Gr H H4 := g2.trans (Gr.tab tb2.1 tb4)
          have en : (((((ks.map fun k => V.int (k : Nat)).length : Nat) : Int) - 1)).toNat = ks.length - 1 := by rw [List.length_map]; omega
          rw [en]
          refine ⟨ks.length - 1, fun i => decide ((ks.getD i 0 : Int) < (ks.getD (i + 1) 0 : Int)), fun _ H5 => H5 = H4, rfl, turns_range (fun i H5 hi e => ?_), fun i H5 _ e => ?_⟩
          · subst e
            refine ⟨rfl, _, rfl, _, rfl, a, _, _, V.int (ks.getD i 0 : Nat), rfl, rfl, g4.seqT hq, ?_, _, rfl, _, rfl, _, _, rfl, rfl, a, _, _, V.int (ks.getD (i + 1) 0 : Nat), rfl, rfl, g4.seqT hq, ?_, _, _, rfl, rfl, rfl, rfl⟩
            · rw [Int.zero_add]; exact atI_nat (intGet ks i (by omega))
            · rw [Int.zero_add]; exact atI_nat (j := i + 1) (intGet ks (i + 1) (by omega))
          · subst e
            refine k _ H5 ?_ g4
            rw [List.all_eq_true]
            constructor
            · intro h
              refine ⟨ks, rfl, pairwise_of_step fun i hi => ?_, hh⟩
              have := h i (List.mem_range.mpr (by omega))
              rw [decide_eq_true_eq] at this
              omega
            · rintro ⟨ks', e, hp, _⟩ i hi
              have e2 : ks = ks' := by
                have := Option.some.inj e
                refine List.map_inj_right ?_ |>.mp this
                intro x y h
                have := V.int.inj h
                omega
              subst e2
              have := step_of_pairwise hp (i := i) (by have := List.mem_range.mp hi; omega)
              rw [decide_eq_true_eq]
              omega
end
end Fair
end

section
set_option Elab.async false
set_option linter.all false
set_option maxRecDepth 100000
set_option maxHeartbeats 4000000
namespace Fair
open PySem PySem.Spec L2 FM
/-! ### a Turns object -/
theorem kOM : ¬ (("machines" : Str) = "owner") := by decide +kernel
theorem kWM : ¬ (("machines" : Str) = "window") := by decide +kernel
theorem kRM : ¬ (("machines" : Str) = "rows") := by decide +kernel
theorem kWO : ¬ (("owner" : Str) = "window") := by decide +kernel
theorem kRO : ¬ (("owner" : Str) = "rows") := by decide +kernel
theorem kRW : ¬ (("window" : Str) = "rows") := by decide +kernel
def fl1 (m : Nat) : List (Str × V) := putF "machines" (.int (m : Nat)) []
def fl2 (m : Nat) (ow : Addr) : List (Str × V) := putF "owner" (.ref ow) (fl1 m)
def fl3 (m : Nat) (ow wi : Addr) : List (Str × V) := putF "window" (.ref wi) (fl2 m ow)
def fl4 (m : Nat) (ow wi ro : Addr) : List (Str × V) := putF "rows" (.ref ro) (fl3 m ow wi)
theorem fl2_eq (m : Nat) (ow : Addr) : fl2 m ow = ([("machines", .int (m : Nat)), ("owner", .ref ow)] : List (Str × V)) := by
  show (if ("machines" : Str) = "owner" then [(("machines" : Str), V.ref ow)] else (("machines" : Str), V.int (m : Nat)) :: putF "owner" (.ref ow) []) = ([("machines", .int (m : Nat)), ("owner", .ref ow)] : List (Str × V))
  rw [if_neg kOM] <;> rfl
theorem fl3_eq (m : Nat) (ow wi : Addr) : fl3 m ow wi = ([("machines", .int (m : Nat)), ("owner", .ref ow), ("window", .ref wi)] : List (Str × V)) := by
  unfold fl3
  rw [fl2_eq]
  show (if ("machines" : Str) = "window" then [(("machines" : Str), V.ref wi), ("owner", .ref ow)] else (("machines" : Str), V.int (m : Nat)) :: (if ("owner" : Str) = "window" then [(("owner" : Str), V.ref wi)] else (("owner" : Str), V.ref ow) :: putF "window" (.ref wi) [])) = ([("machines", .int (m : Nat)), ("owner", .ref ow), ("window", .ref wi)] : List (Str × V))
  rw [if_neg kWM, if_neg kWO] <;> rfl
theorem fl4_ma (m : Nat) (ow wi ro : Addr) : (fl4 m ow wi ro).lookup ("machines" : Str) = some (.int (m : Nat)) := by
  unfold fl4 fl3 fl2 fl1
  rw [lookup_putF, if_neg kRM, lookup_putF, if_neg kWM, lookup_putF, if_neg kOM, lookup_putF, if_pos rfl]
theorem fl4_ow (m : Nat) (ow wi ro : Addr) : (fl4 m ow wi ro).lookup ("owner" : Str) = some (.ref ow) := by
  unfold fl4 fl3 fl2
  rw [lookup_putF, if_neg kRO, lookup_putF, if_neg kWO, lookup_putF, if_pos rfl]
theorem fl4_wi (m : Nat) (ow wi ro : Addr) : (fl4 m ow wi ro).lookup ("window" : Str) = some (.ref wi) := by
  unfold fl4 fl3
  rw [lookup_putF, if_neg kRW, lookup_putF, if_pos rfl]
theorem fl4_ro (m : Nat) (ow wi ro : Addr) : (fl4 m ow wi ro).lookup ("rows" : Str) = some (.ref ro) := by
  unfold fl4
  rw [lookup_putF, if_pos rfl]
theorem fl3_ow (m : Nat) (ow wi : Addr) : (fl3 m ow wi).lookup ("owner" : Str) = some (.ref ow) := by
  unfold fl3 fl2
  rw [lookup_putF, if_neg kWO, lookup_putF, if_pos rfl]
theorem fl3_wi (m : Nat) (ow wi : Addr) : (fl3 m ow wi).lookup ("window" : Str) = some (.ref wi) := by
  unfold fl3
  rw [lookup_putF, if_pos rfl]
/-- no field of a name that is none of the four -/
theorem fl4_no (m : Nat) (ow wi ro : Addr) {x : Str} (h1 : ¬ x = "rows") (h2 : ¬ x = "window") (h3 : ¬ x = "owner") (h4 : ¬ x = "machines") : (fl4 m ow wi ro).lookup x = none := by
  unfold fl4 fl3 fl2 fl1
  rw [lookup_putF, if_neg h1, lookup_putF, if_neg h2, lookup_putF, if_neg h3, lookup_putF, if_neg h4]
  all_goals rfl
/-- where it lies -/
structure TD where
  dx : Addr
  ow : Addr
  wi : Addr
  ro : Addr
  ws : List Addr
  rs : List Addr
def nV (l : List Nat) : List V := l.map fun t => V.int (t : Nat)
/-- the window of the j-th turn of a pair -/
def winL (ps : PR) (t : Nat × Nat) : List V := (List.range (hi (pc ps t.1) (pg ps t.1) t.2 - lo (pc ps t.1) (pg ps t.1) t.2)).map fun i => V.int ((lo (pc ps t.1) (pg ps t.1) t.2 + i : Nat) : Int)
def ownL (Ts : List (Nat × Nat)) : List V := Ts.map fun t => V.int (t.1 : Nat)
/-- while it is made -/
structure TB0 (C : Addr) (H : Hp) (p : Addr) (m : Nat) (ps : PR) (dx ow wi : Addr) (ws : List Addr) (Ts : List (Nat × Nat)) : Prop where
  ob : H p = some (.ins C dx (fl3 m ow wi))
  ow' : H ow = some (.lst (ownL Ts))
  wi' : H wi = some (.lst (ws.map V.ref))
  wr : Paired (fun a t => H a = some (.lst (winL ps t))) ws Ts
  n1 : ow ≠ wi
  n2 : ow ∉ ws
  n3 : wi ∉ ws
structure TA (C : Addr) (H : Hp) (p : Addr) (m L : Nat) (ps : PR) (d : TD) (R : List (List Nat)) : Prop where
  ob : H p = some (.ins C d.dx (fl4 m d.ow d.wi d.ro))
  ow : H d.ow = some (.lst (ownL (turnsTo L ps ps.length)))
  wi : H d.wi = some (.lst (d.ws.map V.ref))
  wr : Paired (fun a t => H a = some (.lst (winL ps t))) d.ws (turnsTo L ps ps.length)
  ro : H d.ro = some (.lst (d.rs.map V.ref))
  rr : Paired (fun a r => H a = some (.lst (nV r))) d.rs R
  nd : d.rs.Nodup
  n1 : d.ow ∉ d.rs
  n2 : d.wi ∉ d.rs
  n3 : d.ro ∉ d.rs
  n4 : ∀ a ∈ d.ws, a ∉ d.rs
/-- the facts of the class -/
structure TC (K : PySem.W.Frag) (mg : Str → Option Value) (C : Addr) : Prop where
  cl : Cls K C
  nM : NoAttr K C "machines"
  nO : NoAttr K C "owner"
  nW : NoAttr K C "window"
  nR : NoAttr K C "rows"
/-- everything ahead of p stays -/
def spInit (K : PySem.W.Frag) (C : Addr) : Sp := fun vs H Q _ => ∃ (p dx : Addr) (x : V) (m L : Nat) (ps : PR), vs = [.ref p, x, .int (m : Nat), .int (L : Nat)] ∧ H p = some (.ins C dx []) ∧ PairsAt K H x ps ∧ OkPs ps ∧ L ≤ 60 ∧
  ∀ (d : TD) (H' : Hp), TA C H' p m L ps d (List.replicate L []) → (∀ b o, H b = some o → b ≠ p → H' b = some o) → (∀ a ∈ d.rs, H a = none) → Q .non H'
theorem fdiv_nat (a b : Nat) : ((a : Int).fdiv (b : Int)) = ((a / b : Nat) : Int) := by
  rw [Int.fdiv_eq_ediv_of_nonneg _ (by omega), Int.natCast_ediv]
theorem lo_int (t g c : Nat) : ((t : Int) * (g : Int)).fdiv (c : Int) = ((lo c g t : Nat) : Int) := by
  unfold lo
  rw [← fdiv_nat, Int.natCast_mul]
theorem hi_int (t g c : Nat) (hc : 0 < c) : -((-((t : Int) + 1)) * (g : Int)).fdiv (c : Int) = ((hi c g t : Nat) : Int) := by
  unfold hi
  rw [Int.fdiv_eq_ediv_of_nonneg _ (by omega)]
  have e : (-((t : Int) + 1)) * (g : Int) = -(((t + 1) * g : Nat) : Int) := by
    rw [Int.natCast_mul, Int.neg_mul]; rfl
  rw [e]
  generalize (t + 1) * g = n
  have h1 : (0 : Int) < (c : Int) := by omega
  have h2 := Int.emod_add_mul_ediv (-(n : Int)) (c : Int)
  have h3 := Int.emod_nonneg (-(n : Int)) (b := (c : Int)) (by omega)
  have h4 := Int.emod_lt_of_pos (-(n : Int)) h1
  have h5 := Nat.div_add_mod (n + (c - 1)) c
  have h6 := Nat.mod_lt (n + (c - 1)) hc
  generalize hq : -(n : Int) / (c : Int) = q at *
  generalize hp : (n + (c - 1)) / c = k at *
  -- c*q ≤ -n < c*q + c ; c*k ≤ n + c - 1 < c*k + c
  have h7 : (c : Int) * (-q) ≥ n := by rw [Int.mul_neg]; omega
  have h8 : (c : Int) * (-q) < n + c := by rw [Int.mul_neg]; omega
  have h9 : (c : Int) * (k : Int) ≤ n + c - 1 := by
    have : ((c * k : Nat) : Int) ≤ ((n + (c - 1) : Nat) : Int) := by omega
    rw [Int.natCast_mul] at this
    omega
  have h10 : (c : Int) * (k : Int) + c > n + c - 1 := by
    have : ((c * k + c : Nat) : Int) > ((n + (c - 1) : Nat) : Int) := by omega
    rw [Int.natCast_add, Int.natCast_mul] at this
    omega
  have h11 : -q = (k : Int) := by
    have a1 : (c : Int) * (-q) < (c : Int) * ((k : Int) + 1) := by rw [Int.mul_add, Int.mul_one]; omega
    have a2 : (c : Int) * (k : Int) < (c : Int) * (-q + 1) := by rw [Int.mul_add, Int.mul_one]; omega
    have b1 := Int.lt_of_mul_lt_mul_left a1 (by omega)
    have b2 := Int.lt_of_mul_lt_mul_left a2 (by omega)
    omega
  exact h11
end Fair
end

section
set_option Elab.async false
set_option linter.all false
set_option maxRecDepth 100000
set_option maxHeartbeats 4000000
namespace Fair
open PySem PySem.Spec L2 FM
theorem getD_of {α : Type} {l : List α} {i : Nat} {x d : α} (h : l[i]? = some x) : l.getD i d = x := by
  rw [List.getD_eq_getElem?_getD, h] <;> rfl
theorem pc_of {ps : PR} {i : Nat} {p : Nat × Nat} (h : ps[i]? = some p) : pc ps i = p.1 ∧ pg ps i = p.2 := by
  unfold pc pg
  rw [getD_of h]
  exact ⟨rfl, rfl⟩
theorem paired_append {α β : Type} {R : α → β → Prop} : ∀ {xs : List α} {ys : List β} {x : α} {y : β}, Paired R xs ys → R x y → Paired R (xs ++ [x]) (ys ++ [y])
  | _, _, _, _, .nil, r => .cons r .nil
  | _, _, _, _, .cons q t, r => .cons q (paired_append t r)
theorem ownL_append (Ts : List (Nat × Nat)) (t : Nat × Nat) : ownL (Ts ++ [t]) = ownL Ts ++ [V.int (t.1 : Nat)] := by unfold ownL; simp
theorem rgV_win (ps : PR) (k j : Nat) : rgV ((lo (pc ps k) (pg ps k) j : Nat) : Int) ((hi (pc ps k) (pg ps k) j : Nat) : Int) = winL ps (k, j) := by
  unfold rgV winL
  simp only
  rw [show (((hi (pc ps k) (pg ps k) j : Nat) : Int) - ((lo (pc ps k) (pg ps k) j : Nat) : Int)).toNat = hi (pc ps k) (pg ps k) j - lo (pc ps k) (pg ps k) j by omega]
  refine List.map_congr_left fun i _ => ?_
  rw [Int.natCast_add]
theorem paired_of {α β : Type} {R S : α → β → Prop} : ∀ {xs : List α} {ys : List β}, Paired R xs ys → (∀ a b, a ∈ xs → R a b → S a b) → Paired S xs ys
  | _, _, .nil, _ => .nil
  | _, _, .cons r t, h => .cons (h _ _ List.mem_cons_self r) (paired_of t fun a b ha => h a b (List.mem_cons_of_mem _ ha))
theorem turnsTo_len {L : Nat} {ps : PR} {n : Nat} (h : ∀ k, k < n → cntOf L ps k ≤ 720) : (turnsTo L ps n).length ≤ 720 * n := by
  induction n with
  | zero => exact Nat.le_of_eq rfl
  | succ n ih =>
    rw [turnsTo_succ, List.length_append, List.length_map, List.length_range]
    have := ih fun k hk => h k (by omega)
    have := h n (by omega)
    omega
theorem cnt_le {L : Nat} {ps : PR} {k : Nat} (ok : OkPs ps) (hL : L ≤ 60) (hk : k < ps.length) : cntOf L ps k ≤ 720 := by
  unfold cntOf
  obtain ⟨e1, e2⟩ := pc_of (List.getElem?_eq_getElem hk)
  have := ok.ok _ (List.getElem_mem hk)
  exact Nat.le_trans (Nat.mul_le_mul (Nat.le_trans (Nat.div_le_self _ _) hL) (show pc ps k ≤ 12 by rw [e1]; omega)) (by decide)
theorem lst_inj {H : Hp} {a b : Addr} {xs ys : List V} (h1 : H a = some (.lst xs)) (h2 : H b = some (.lst ys)) (h : xs ≠ ys) : a ≠ b := fun e => by
  rw [e, h2] at h1
  cases h1
  exact h rfl
section
variable {P : Program} {w : World} {K : PySem.W.Frag} {mg : Str → Option Value} {base : Heap} {f C : Addr} {fd : FuncData}
theorem scInit : FnScope ["self", "pairs", "machines", "cycle", "k", "cost", "gap", "turn", "now"] ["self", "pairs", "machines", "cycle"] (defScope sInit) := ⟨rfl, rfl, rfl, by decide +kernel, rfl, by decide +kernel, by decide +kernel⟩
/-- the state between turns of the inner loop -/
def InitSt (C : Addr) (H0 : Hp) (p dx a : Addr) (m L : Nat) (ps : PR) (ow wi : Addr) (Ts : List (Nat × Nat)) (H : Hp) : Prop :=
  ∃ ws, TB0 C H p m ps dx ow wi ws Ts ∧ (∀ b o, H0 b = some o → b ≠ p → H b = some o) ∧ H0 ow = none ∧ H0 wi = none
theorem ok_init (F : FnP K "__init__" "Turns.__init__" sInit f fd) (T : Tx mg) (Tc : TC K mg C) : FnOk P w K mg base CX0 1 f fd ["self", "pairs", "machines", "cycle"] (spInit K C) := by
  refine okN F scInit (fun vs H Q E h => ?_) (fun cdv A outer s H vs Q E hr h => ?_)
  · obtain ⟨p, dx, x, m, L, ps, rfl, _⟩ := h
    rfl
  · obtain ⟨p, dx, x, m, L, ps, rfl, hp, hpr, ok, hL, k⟩ := h
    cases hpr with
    | @mk a xs _ hq ht hpp =>
      refine ⟨_, pss_cons (ps_fld (pv 0) (pv 2) rfl) (pss_cons (ps_fld (pv 0) (pe_lst pa_nil) rfl) (pss_cons (ps_fld (pv 0) (pe_lst pa_nil) rfl)
        (pss_cons (ps_for PassesOwn.never rfl (Lx.pi_enumT rfl T.enum (pa_cons (pv 1) pa_nil)) (pg_tup (by rfl) (pgs_cons (pg_name (i := 4) scInit.nd rfl (.inl rfl)) (pgs_cons (pg_tup (by rfl) (pgs_cons (pg_name (i := 5) scInit.nd rfl (.inl rfl)) (pgs_cons (pg_name (i := 6) scInit.nd rfl (.inl rfl)) pgs_nil))) pgs_nil)))
          (pss_one (ps_for PassesOwn.never rfl (pi_range1 rfl T.range (pa_cons (pe_op op_mul (pe_op op_fdivN (pv 3) (pv 6)) (pv 5)) pa_nil)) (pg_name (i := 7) scInit.nd rfl (.inl rfl))
            (pss_cons (ps_expr (pe_bm PySem.F.plainAttrs_list PySem.F.slot_list_append PySem.F.type_list_append mt_append (pe_fld (pv 0) rfl) (pa_cons (pv 4) pa_nil)))
            (pss_one (ps_expr (pe_bm PySem.F.plainAttrs_list PySem.F.slot_list_append PySem.F.type_list_append mt_append (pe_fld (pv 0) rfl) (pa_cons
              (pe_listRg rfl rfl T.list (prg_2 rfl T.range (pe_op op_fdivN (pe_op op_mul (pv 7) (pv 6)) (pv 5)) (pe_un un_neg (pe_op op_fdivN (pe_op op_mul (pe_un un_neg (pe_op op_add (pv 7) pe_int)) (pv 6)) (pv 5))))) pa_nil))))))))
        (pss_one (ps_fld (pv 0) (pe_lc (own := [("now", 8)]) (g := gName 8) (tt := tYes) rfl scInit.nd (pi_range1 rfl T.range (pa_cons (pv 3) pa_nil)) (blkOk_by (own := [("now", 8)]) (N := ["self", "pairs", "machines", "cycle", "k", "cost", "gap", "turn", "now"]) (sc := defScope sInit) (by decide +kernel))
          (fun _ _ _ _ _ => pg_name (i := 8) scInit.nd rfl (Or.inl rfl)) (fun _ _ _ _ _ => pts_nil) (fun _ _ _ _ _ => pe_lst pa_nil)) rfl))))), ?_⟩
      -- self.machines = machines
      refine ⟨_, rfl, _, rfl, p, C, dx, [], rfl, hp, Tc.cl, Tc.nM, (by show 0 < 1000; decide), ?_⟩
      -- self.owner = []
      refine ⟨by decide, fun ow how => ?_⟩
      have npo : p ≠ ow := ne_of_none (o := .ins C dx (fl1 m)) upd_same how
      refine ⟨_, rfl, p, C, dx, fl1 m, rfl, (by rw [upd_ne npo]; exact upd_same), Tc.cl, Tc.nO, (by show 1 < 1000; decide), ?_⟩
      refine ⟨by decide, fun wi hwi => ?_⟩
      have npw : p ≠ wi := ne_of_none (o := .ins C dx (fl2 m ow)) upd_same hwi
      have now_ : ow ≠ wi := ne_of_none (o := .lst []) (by rw [upd_ne npo.symm]; exact upd_same) hwi
      refine ⟨_, rfl, p, C, dx, fl2 m ow, rfl, (by rw [upd_ne npw]; exact upd_same), Tc.cl, Tc.nW, (by rw [fl2_eq]; show 2 < 1000; decide), ?_⟩
      have fow : H ow = none := by rw [upd_ne npo.symm] at how; exact how
      have fwi : H wi = none := by rw [upd_ne npw.symm, upd_ne now_.symm, upd_ne npw.symm] at hwi; exact hwi
      have s1 : InitSt C H p dx a m L ps ow wi [] (upd (upd (upd (upd (upd H p (.ins C dx (fl1 m))) ow (.lst [])) p (.ins C dx (fl2 m ow))) wi (.lst [])) p (.ins C dx (fl3 m ow wi))) := by
        refine ⟨[], ⟨upd_same, ?_, ?_, .nil, now_, by simp, by simp⟩, fun b o e hb => ?_, fow, fwi⟩
        · rw [upd_ne npo.symm, upd_ne now_, upd_ne npo.symm]; exact upd_same
        · rw [upd_ne npw.symm]; exact upd_same
        · rw [upd_ne hb, upd_ne (ne_of_none e fwi), upd_ne hb, upd_ne (ne_of_none e fow), upd_ne hb]; exact e
      have hpN : ∀ b o, H b = some o → b ≠ p → H b = some o := fun _ _ e _ => e
      have hap : ∀ H2, (∀ b o, H b = some o → b ≠ p → H2 b = some o) → SqT K H2 a xs := fun H2 fr => by
        rcases hq with (z | ⟨o, z⟩) | z
        · exact .inl (.inl (fr _ _ z (ne_of z hp (by intro z; cases z))))
        · exact .inl (.inr ⟨o, fr _ _ z (ne_of z hp (by intro z; cases z))⟩)
        · exact .inr z
      have hpt : ∀ H2, (∀ b o, H b = some o → b ≠ p → H2 b = some o) → ∀ b es, SqT K H b es → SqT K H2 b es := fun H2 fr b es hb => by
        rcases hb with (z | ⟨o, z⟩) | z
        · exact .inl (.inl (fr _ _ z (ne_of z hp (by intro z; cases z))))
        · exact .inl (.inr ⟨o, fr _ _ z (ne_of z hp (by intro z; cases z))⟩)
        · exact .inr z
      -- for k, (cost, gap) in enumerate(pairs)
      refine ⟨_, rfl, a, xs, rfl, hq |> fun z => hap _ s1.choose_spec.2.1, Lx.for_enumT (fun i σ H2 => ∃ v4 v5 v6 v7 v8, σ = [some (.ref p), some (.ref a), some (.int (m : Nat)), some (.int (L : Nat)), v4, v5, v6, v7, v8] ∧ InitSt C H p dx a m L ps ow wi (turnsTo L ps i) H2)
        ⟨_, _, _, _, _, rfl, s1⟩ (fun i σ H2 _ ⟨_, _, _, _, _, _, S⟩ => hap _ S.choose_spec.2.1) ?_ ?_⟩
      · rintro i x T' σ H2 hix ⟨v4, v5, v6, v7, v8, rfl, S⟩ hT
        obtain ⟨y, hy, py⟩ := paired_at hpp hix
        obtain ⟨c1, c2⟩ := pc_of hy
        have okp := ok.ok _ (List.mem_of_getElem? hy)
        have hil : i < ps.length := (List.getElem?_eq_some_iff.mp hy).1
        cases py with
        | @mk b c g hb hbt =>
          simp only at okp c1 c2
          have S3 : InitSt C H p dx a m L ps ow wi (turnsTo L ps i) (upd H2 T' (.tup [.int (i : Nat), .ref b])) := by
            obtain ⟨ws, B, fr, f1, f2⟩ := S
            refine ⟨ws, ⟨?_, ?_, ?_, ?_, B.n1, B.n2, B.n3⟩, fun q o e hq' => ?_, f1, f2⟩
            · rw [upd_ne (ne_of_none B.ob hT)]; exact B.ob
            · rw [upd_ne (ne_of_none B.ow' hT)]; exact B.ow'
            · rw [upd_ne (ne_of_none B.wi' hT)]; exact B.wi'
            · exact paired_map (fun u t e => by rw [upd_ne (ne_of_none e hT)]; exact e) B.wr
            · rw [upd_ne (ne_of_none (fr q o e hq') hT)]; exact fr q o e hq'
          refine ⟨T', _, rfl, SqT.of upd_same, rfl, _, _, rfl, _, _, rfl, b, _, rfl, hpt _ S3.choose_spec.2.1 b _ hb, rfl, _, _, rfl, _, _, rfl, rfl, rfl, ?_⟩
          -- for turn in range(cycle // gap * cost)
          have hn : ((L : Int).fdiv (g : Int)) * (c : Int) = ((cntOf L ps i : Nat) : Int) := by
            rw [fdiv_nat, ← Int.natCast_mul]
            unfold cntOf
            rw [c1, c2]
          have hcnt : cntOf L ps i ≤ 60 * 12 := by
            unfold cntOf
            exact Nat.mul_le_mul (Nat.le_trans (Nat.div_le_self _ _) hL) (by rw [c1]; omega)
          refine ⟨_, rfl, _, rfl, _, _, rfl, rfl, ⟨by omega, by rw [Int.natAbs_natCast]; omega⟩, _, rfl, _, _, rfl, rfl, .inl ?_, _, rfl, ?_⟩
          · rw [fdiv_nat]
            have : L / g ≤ 60 := Nat.le_trans (Nat.div_le_self _ _) hL
            generalize L / g = q at *
            constructor <;> omega
          rw [hn]
          refine ⟨by omega, by omega, ?_⟩
          rw [Int.toNat_natCast]
          refine for_range (lo := 0) (n := cntOf L ps i) (fun j σ H4 => ∃ v7 v8, σ = [some (.ref p), some (.ref a), some (.int (m : Nat)), some (.int (L : Nat)), some (.int (i : Nat)), some (.int (c : Nat)), some (.int (g : Nat)), v7, v8] ∧ InitSt C H p dx a m L ps ow wi (turnsTo L ps i ++ (List.range j).map fun j => (i, j)) H4)
            ⟨v7, v8, rfl, by simpa using S3⟩ ?_ ?_
          · rintro j σ H4 hj ⟨w7, w8, rfl, ws, B, fr, f1, f2⟩
            have hT4 : (turnsTo L ps i ++ (List.range j).map fun j => (i, j)).length ≤ 4000 := by
              rw [List.length_append, List.length_map, List.length_range]
              have := turnsTo_len (L := L) (ps := ps) (n := i) fun k hk => cnt_le ok hL (by omega)
              have := ok.l4
              have : 720 * i ≤ 720 * 3 := Nat.mul_le_mul_left _ (by omega)
              omega
            have hl1 : (ownL (turnsTo L ps i ++ (List.range j).map fun j => (i, j))).length < sizeLine := by
              unfold ownL
              rw [List.length_map, sizeLine_eq]
              omega
            have hl2 : (ws.map V.ref).length < sizeLine := by
              rw [List.length_map, paired_len B.wr, sizeLine_eq]
              omega
            have e0 : (0 : Int) + (j : Int) = j := Int.zero_add _
            rw [e0]
            have npo : p ≠ ow := ne_of B.ob B.ow' (by intro z; cases z)
            have npw : p ≠ wi := ne_of B.ob B.wi' (by intro z; cases z)
            refine ⟨_, rfl, p, C, dx, _, _, rfl, B.ob, Tc.cl, Tc.nO, fl3_ow m ow wi, .inl ⟨rfl, _, SqL.of B.ow'⟩, _, rfl, ow, _, _, rfl, rfl, B.ow', hl1, ?_⟩
            refine ⟨_, rfl, p, C, dx, _, _, rfl, (by rw [upd_ne npo]; exact B.ob), Tc.cl, Tc.nW, fl3_wi m ow wi, .inl ⟨rfl, _, SqL.of (by rw [upd_ne (Ne.symm B.n1)]; exact B.wi')⟩, ?_⟩
            refine ⟨_, rfl, _, rfl, _, _, rfl, rfl, .inl ⟨by omega, by omega⟩, _, rfl, _, _, rfl, rfl, ⟨by omega, by rw [Int.natAbs_natCast]; omega⟩, ?_⟩
            refine ⟨_, rfl, _, _, rfl, rfl, _, rfl, _, rfl, _, _, rfl, rfl, .inl ⟨by omega, by omega⟩, _, rfl, _, _, rfl, rfl, ⟨by omega, by rw [Int.natAbs_natCast]; omega⟩, _, rfl, ?_⟩
            have b1 : lo c g j ≤ 720 * 12 := Nat.le_trans (Nat.div_le_self _ _) (Nat.mul_le_mul (show j ≤ 720 by omega) (show g ≤ 12 by omega))
            have b2 : hi c g j ≤ 721 * 12 + 12 := by
              exact Nat.le_trans (Nat.div_le_self _ _) (Nat.add_le_add (Nat.mul_le_mul (show j + 1 ≤ 721 by omega) (show g ≤ 12 by omega)) (show c - 1 ≤ 12 by omega))
            refine ⟨((lo c g j : Nat) : Int), ((hi c g j : Nat) : Int), congrArg V.int (lo_int j g c), congrArg V.int (hi_int j g c (by omega)), RgOk.of_le (by omega) (by omega) (by omega) (by omega), fun q hq' => ?_⟩
            have ew : rgV ((lo c g j : Nat) : Int) ((hi c g j : Nat) : Int) = winL ps (i, j) := by rw [← rgV_win, c1, c2]
            have nqo : ow ≠ q := ne_of_none (o := .lst (ownL (turnsTo L ps i ++ (List.range j).map fun j => (i, j)) ++ [V.int (i : Nat)])) upd_same hq'
            have hq4 : H4 q = none := by rw [upd_ne nqo.symm] at hq'; exact hq'
            have nqw : wi ≠ q := ne_of_none B.wi' hq4
            refine ⟨wi, _, _, rfl, rfl, (by rw [upd_ne nqw, upd_ne B.n1.symm]; exact B.wi'), hl2, ?_⟩
            refine ⟨_, _, rfl, ws ++ [q], ⟨?_, ?_, ?_, ?_, B.n1, ?_, ?_⟩, fun b' o e hb' => ?_, f1, f2⟩
            · rw [upd_ne npw, upd_ne (ne_of_none B.ob hq4), upd_ne npo]; exact B.ob
            · rw [upd_ne B.n1, upd_ne nqo, upd_same, List.range_succ, List.map_append, ← List.append_assoc, List.map_singleton, ownL_append]
            · rw [upd_same, List.map_append, List.map_singleton]
            · rw [List.range_succ, List.map_append, ← List.append_assoc, List.map_singleton]
              refine paired_append (paired_of B.wr fun u t hu e => ?_) ?_
              · have n1 : u ≠ wi := fun z => B.n3 (by rw [← z]; exact hu)
                have n2 : u ≠ ow := fun z => B.n2 (by rw [← z]; exact hu)
                rw [upd_ne n1, upd_ne (ne_of_none e hq4), upd_ne n2]; exact e
              · rw [upd_ne nqw.symm, upd_same, ew]
            · intro z
              rcases List.mem_append.mp z with z | z
              · exact B.n2 z
              · exact nqo (List.mem_singleton.mp z)
            · intro z
              rcases List.mem_append.mp z with z | z
              · exact B.n3 z
              · exact nqw (List.mem_singleton.mp z)
            · have e4 := fr b' o e hb'
              rw [upd_ne (ne_of_none e f2), upd_ne (ne_of_none e4 hq4), upd_ne (ne_of_none e f1)]
              exact e4
          · rintro σ H4 ⟨w7, w8, rfl, S⟩
            exact ⟨_, _, _, _, _, rfl, by rw [turnsTo_succ]; exact S⟩
      · rintro σ H2 ⟨v4, v5, v6, v7, v8, rfl, ws, B, fr, f1, f2⟩
        have hl := paired_len hpp
        -- self.rows = [[] for now in range(cycle)]
        refine ⟨_, rfl, _, rfl, by omega, by omega, fun D hD => ?_⟩
        rw [Int.toNat_natCast]
        refine lc_range (lo := 0) (n := L) (fun u H5 => ∃ rs : List Addr, H5 D = some (.lst (rs.map V.ref)) ∧ Paired (fun a r => H5 a = some (.lst (nV r))) rs (List.replicate u []) ∧ rs.Nodup ∧ D ∉ rs ∧ (∀ a ∈ rs, H2 a = none) ∧ (∀ b o, H2 b = some o → H5 b = some o))
          ⟨[], upd_same, .nil, List.nodup_nil, by simp, by simp, fun b o e => by rw [upd_ne (ne_of_none e hD)]; exact e⟩ ?_ ?_
        · rintro u H5 hu ⟨rs, r1, r2, r3, r4, r5, r6⟩
          refine ⟨rfl, by decide, fun l hl' => ?_⟩
          refine ⟨rs.map V.ref, ?_, ?_, rs ++ [l], ?_, ?_, ?_, ?_, ?_, ?_⟩
          · rw [upd_ne (ne_of_none r1 hl')]; exact r1
          · rw [List.length_map, paired_len r2, List.length_replicate, sizeLine_eq]; omega
          · rw [upd_same, List.map_append, List.map_singleton]
          · rw [List.replicate_succ']
            have nlD : l ≠ D := (ne_of_none r1 hl').symm
            refine paired_append (paired_of r2 fun a r ha e => ?_) ?_
            · rw [upd_ne (fun z => r4 (by rw [← z]; exact ha)), upd_ne (ne_of_none e hl')]; exact e
            · rw [upd_ne nlD, upd_same] <;> rfl
          · rw [List.nodup_append]
            refine ⟨r3, by simp, fun a ha b hb z => ?_⟩
            have eb : b = l := by simpa using hb
            subst eb
            obtain ⟨i, hi, ei⟩ := List.getElem_of_mem ha
            obtain ⟨y, _, ry⟩ := paired_at r2 (List.getElem?_eq_getElem hi)
            rw [ei, z, hl'] at ry
            cases ry
          · intro z
            rcases List.mem_append.mp z with z | z
            · exact r4 z
            · rw [← List.mem_singleton.mp z, r1] at hl'; cases hl'
          · intro a ha
            rcases List.mem_append.mp ha with z | z
            · exact r5 a z
            · rw [List.mem_singleton.mp z]
              cases e : H2 l with
              | none => rfl
              | some o => rw [r6 l o e] at hl'; cases hl'
          · intro b o e
            rw [upd_ne (ne_of_none e hD), upd_ne (ne_of_none (r6 b o e) hl')]
            exact r6 b o e
        · rintro H5 ⟨rs, r1, r2, r3, r4, r5, r6⟩
          have hpD : p ≠ D := ne_of_none B.ob hD
          refine ⟨_, rfl, p, C, dx, fl3 m ow wi, rfl, r6 _ _ B.ob, Tc.cl, Tc.nR, (by rw [fl3_eq]; show 3 < 1000; decide), ?_⟩
          have old : ∀ q o, H2 q = some o → q ≠ p → upd H5 p (.ins C dx (putF "rows" (.ref D) (fl3 m ow wi))) q = some o := fun q o e hq' => by rw [upd_ne hq']; exact r6 q o e
          have nin : ∀ q o, H2 q = some o → q ∉ rs := fun q o e z => by rw [r5 q z] at e; cases e
          have npo : ow ≠ p := ne_of B.ow' B.ob (by intro z; cases z)
          have npw : wi ≠ p := ne_of B.wi' B.ob (by intro z; cases z)
          have wrOk : ∀ a ∈ ws, ∃ o, H2 a = some o ∧ a ≠ p := fun a ha => by
            obtain ⟨i, hi, ei⟩ := List.getElem_of_mem ha
            obtain ⟨y, _, ry⟩ := paired_at B.wr (List.getElem?_eq_getElem hi)
            rw [ei] at ry
            exact ⟨_, ry, ne_of ry B.ob (by intro z; cases z)⟩
          rw [hl] at B
          refine k ⟨dx, ow, wi, D, ws, rs⟩ _ ⟨upd_same, old _ _ B.ow' npo, old _ _ B.wi' npw, paired_of B.wr fun a t ha e => old _ _ e (wrOk a ha).choose_spec.2, ?_, paired_of r2 fun a r ha e => ?_, r3, nin _ _ B.ow', nin _ _ B.wi', r4, fun a ha => nin a _ (wrOk a ha).choose_spec.1⟩ (fun b o e hb => ?_) fun a ha => ?_
          · rw [upd_ne hpD.symm]; exact r1
          · rw [upd_ne (fun z => by rw [z] at ha; exact nin p _ B.ob ha)]; exact e
          · rw [upd_ne hb]; exact r6 b o (fr b o e hb)
          · have h2 := r5 a ha
            cases e : H a with
            | none => rfl
            | some o =>
              by_cases hap' : a = p
              · rw [hap', B.ob] at h2; cases h2
              · rw [fr a o e hap'] at h2; cases h2
end
end Fair
end

section
set_option Elab.async false
set_option linter.all false
set_option maxRecDepth 100000
set_option maxHeartbeats 4000000
namespace Fair
open PySem PySem.Spec L2 FM
section
variable {C : Addr} {H H' : Hp} {p : Addr} {m L : Nat} {ps : PR} {d : TD} {R : List (List Nat)}
theorem TA.same (A : TA C H p m L ps d R) (s : Same H H') : TA C H' p m L ps d R :=
  ⟨s _ _ A.ob, s _ _ A.ow, s _ _ A.wi, paired_map (fun _ _ e => s _ _ e) A.wr, s _ _ A.ro, paired_map (fun _ _ e => s _ _ e) A.rr, A.nd, A.n1, A.n2, A.n3, A.n4⟩
theorem rowAt_get {u : Nat} (h : u < R.length) : R[u]? = some (rowAt R u) := by
  unfold rowAt
  rw [List.getD_eq_getElem?_getD, List.getElem?_eq_getElem h] <;> rfl
theorem TA.row (A : TA C H p m L ps d R) {u : Nat} (h : u < R.length) : ∃ r, d.rs[u]? = some r ∧ (d.rs.map V.ref)[u]? = some (.ref r) ∧ H r = some (.lst (nV (rowAt R u))) ∧ r ∈ d.rs := by
  obtain ⟨r, e1, e2⟩ := paired_atR A.rr (rowAt_get h)
  exact ⟨r, e1, by rw [List.getElem?_map, e1] <;> rfl, e2, List.mem_of_getElem? e1⟩
theorem TA.own {t : Nat} (h : t < nT L ps) : (ownL (turnsTo L ps ps.length))[t]? = some (.int (ownT L ps t : Nat)) := by
  unfold ownL ownT
  rw [List.getElem?_map, List.getElem?_eq_getElem h, List.getD_eq_getElem?_getD, List.getElem?_eq_getElem h] <;> rfl
theorem TA.win (A : TA C H p m L ps d R) {t : Nat} (h : t < nT L ps) : ∃ w, (d.ws.map V.ref)[t]? = some (.ref w) ∧ H w = some (.lst (winL ps (ownT L ps t, ixT L ps t))) ∧ w ∈ d.ws := by
  have e0 : (turnsTo L ps ps.length)[t]? = some (ownT L ps t, ixT L ps t) := by
    unfold ownT ixT
    rw [List.getD_eq_getElem?_getD, List.getElem?_eq_getElem h] <;> rfl
  obtain ⟨r, e1, e2⟩ := paired_atR A.wr e0
  exact ⟨r, by rw [List.getElem?_map, e1] <;> rfl, e2, List.mem_of_getElem? e1⟩
theorem nV_get {l : List Nat} {i : Nat} {x : V} (h : (nV l)[i]? = some x) : ∃ t, l[i]? = some t ∧ x = .int (t : Nat) := by
  unfold nV at h
  rw [List.getElem?_map] at h
  cases e : l[i]? with
  | none => rw [e] at h; cases h
  | some t =>
    rw [e] at h
    exact ⟨t, rfl, (Option.some.inj h).symm⟩
theorem nV_len (l : List Nat) : (nV l).length = l.length := by unfold nV; rw [List.length_map]
theorem nV_app (l : List Nat) (t : Nat) : nV (l ++ [t]) = nV l ++ [V.int (t : Nat)] := by unfold nV; simp
end
/-- a row's turns of the same owner -/
def sameOf (L : Nat) (ps : PR) (turn : Nat) (r : List Nat) : List Nat := r.filter fun o => decide (ownT L ps o = ownT L ps turn)
def spRivals (C : Addr) : Sp := fun vs H Q _ => ∃ (p : Addr) (turn now m L : Nat) (ps : PR) (d : TD) (R : List (List Nat)), vs = [.ref p, .int (turn : Nat), .int (now : Nat)] ∧ TA C H p m L ps d R ∧ turn < nT L ps ∧ now < R.length ∧ (∀ t ∈ rowAt R now, t < nT L ps) ∧ (rowAt R now).length ≤ 100 ∧
  (∀ l H', Same H H' → H l = none → H' l = some (.lst (nV (sameOf L ps turn (rowAt R now)))) → sameOf L ps turn (rowAt R now) ≠ [] → Q (.ref l) H') ∧
  (∀ H', Same H H' → sameOf L ps turn (rowAt R now) = [] → (rowAt R now).length < m → Q .non H') ∧
  (∀ l H', Same H H' → H l = none → H' l = some (.lst (nV (rowAt R now))) → sameOf L ps turn (rowAt R now) = [] → m ≤ (rowAt R now).length → Q (.ref l) H')
section
variable {P : Program} {w : World} {K : PySem.W.Frag} {mg : Str → Option Value} {base : Heap} {f C : Addr} {fd : FuncData}
theorem scRivals : FnScope ["self", "turn", "now", "same", "other"] ["self", "turn", "now"] (defScope sRivals) := ⟨rfl, rfl, rfl, by decide +kernel, rfl, by decide +kernel, by decide +kernel⟩
theorem ok_rivals (F : FnP K "rivals" "Turns.rivals" sRivals f fd) (T : Tx mg) (Tc : TC K mg C) : FnOk P w K mg base CX0 1 f fd ["self", "turn", "now"] (spRivals C) := by
  refine okN F scRivals (fun vs H Q E h => ?_) (fun cdv A outer s H vs Q E hr h => ?_)
  · obtain ⟨p, turn, now, m, L, ps, d, R, rfl, _⟩ := h
    rfl
  · obtain ⟨p, turn, now, m, L, ps, d, R, rfl, TAh, htn, hnow, hlt, hlen, k1, k2, k3⟩ := h
    obtain ⟨r, hr0, hr1, hr2, hr3⟩ := TAh.row hnow
    refine ⟨_, pss_cons (ps_setLc (i := 3) (own := [("other", 4)]) (g := gName 4) rfl scRivals.nd rfl rfl (sw_true rfl rfl rfl (by decide +kernel)) (pi_list (pe_ix ix_list (pe_fld (pv 0) rfl) (pv 2) (fun _ _ => rfl)))
        (blkOk_by (own := [("other", 4)]) (N := ["self", "turn", "now", "same", "other"]) (sc := defScope sRivals) (by decide +kernel)) (fun _ _ _ _ _ => pg_name (i := 4) scRivals.nd rfl (Or.inl rfl))
        (fun _ _ _ _ _ => pts_one (pt_cmpR op_eq (pe_ix (show IxR _ (rIxL K) from ix_list) (show PE _ _ (tFld K (tVar 0) "owner") from pe_fld (pv 0) rfl) (pv 4) (fun _ _ => rfl)) (pe_ix (show IxR _ (rIxL K) from ix_list) (show PE _ _ (tFld K (tVar 0) "owner") from pe_fld (pv 0) rfl) (pv 1) (fun _ _ => rfl)) (nomark _)))
        (fun _ _ _ _ _ => pv 4))
      (pss_cons (ps_if (pt_truth (pv 3) (by intro _; rfl)) (pss_one (ps_ret (pv 3))) pss_nil)
      (pss_one (ps_ret (pe_ifExp (pt_cmpR op_lt (pe_callB call_len_seq rfl T.len PySem.boot_len (pa_cons (pe_ix ix_list (pe_fld (pv 0) rfl) (pv 2) (fun _ _ => rfl)) pa_nil)) (pe_fld (pv 0) rfl) (nomark _)) pe_non
        (pe_callTy call_list_of rfl T.list (by decide +kernel) (pa_cons (pe_ix ix_list (pe_fld (pv 0) rfl) (pv 2) (fun _ _ => rfl)) pa_nil)))))), ?_⟩
    refine ⟨_, rfl, p, C, d.dx, _, _, rfl, TAh.ob, Tc.cl, Tc.nR, fl4_ro _ _ _ _, _, rfl, d.ro, _, _, _, rfl, rfl, SqL.of TAh.ro, atI_nat hr1, r, rfl, ⟨_, SqL.of hr2⟩, fun D hD => ?_⟩
    have old : ∀ H5, (∀ b, b ≠ D → H5 b = H b) → Same H H5 := fun H5 e b o hb => by rw [e b (ne_of_none hb hD)]; exact hb
    refine lc_list (K := K) (a := r) (xs := nV (rowAt R now)) (fun i H5 => H5 D = some (.lst (nV (sameOf L ps turn ((rowAt R now).take i)))) ∧ ∀ b, b ≠ D → H5 b = H b) ⟨upd_same, fun b hb => upd_ne hb⟩ (fun i H5 _ ⟨_, e⟩ => SqL.of (old H5 e _ _ hr2)) ?_ ?_
    · rintro i x H5 hi ⟨q1, q2⟩
      obtain ⟨t, ht, rfl⟩ := nV_get hi
      have A5 := TAh.same (old H5 q2)
      have e1 := TA.own (hlt t (List.mem_of_getElem? ht))
      have e2 := TA.own htn
      refine ⟨rfl, _, rfl, p, C, d.dx, _, _, rfl, A5.ob, Tc.cl, Tc.nO, fl4_ow _ _ _ _, _, rfl, d.ow, _, _, _, rfl, rfl, SqL.of A5.ow, atI_nat e1, ?_⟩
      refine ⟨_, rfl, p, C, d.dx, _, _, rfl, A5.ob, Tc.cl, Tc.nO, fl4_ow _ _ _ _, _, rfl, d.ow, _, _, _, rfl, rfl, SqL.of A5.ow, atI_nat e2, rfl, _, rfl, ?_⟩
      have et : (rowAt R now).take (i + 1) = (rowAt R now).take i ++ [t] := by rw [List.take_add_one, ht] <;> rfl
      by_cases ho : ownT L ps t = ownT L ps turn
      · have e3 : decide (V.int (ownT L ps t : Nat) = V.int (ownT L ps turn : Nat)) = true := decide_eq_true (by rw [ho])
        show if decide (V.int (ownT L ps t : Nat) = V.int (ownT L ps turn : Nat)) = true then _ else _
        rw [e3]
        refine iteT ⟨_, rfl, _, q1, ?_, ?_, fun b hb => ?_⟩
        · rw [nV_len]
          have : (sameOf L ps turn ((rowAt R now).take i)).length ≤ 100 := Nat.le_trans (List.length_filter_le _ _) (Nat.le_trans (List.length_take_le _ _) (by
            have := List.length_take_le i (rowAt R now)
            have := (List.getElem?_eq_some_iff.mp ht).1
            omega))
          exact small1000 (by omega)
        · rw [upd_same, et]
          unfold sameOf
          rw [List.filter_append, List.filter_cons_of_pos (by simpa using ho), List.filter_nil, nV_app]
        · rw [upd_ne hb]; exact q2 b hb
      · have e3 : decide (V.int (ownT L ps t : Nat) = V.int (ownT L ps turn : Nat)) = false := decide_eq_false (fun z => ho (by have := V.int.inj z; omega))
        show if decide (V.int (ownT L ps t : Nat) = V.int (ownT L ps turn : Nat)) = true then _ else _
        rw [e3]
        refine iteF ⟨?_, q2⟩
        rw [q1, et]
        unfold sameOf
        rw [List.filter_append, List.filter_cons_of_neg (by simpa using ho), List.filter_nil, List.append_nil]
    · rintro H5 ⟨q1, q2⟩
      rw [nV_len, List.take_length] at q1
      have s5 := old H5 q2
      have A5 := TAh.same s5
      refine ⟨_, rfl, _, .inl ⟨_, SqL.of q1, rfl⟩, ?_⟩
      cases e : sameOf L ps turn (rowAt R now) with
      | cons t l =>
        refine iteT ?_
        exact ⟨_, rfl, k1 D H5 s5 hD q1 (by rw [e]; simp)⟩
      | nil =>
        refine iteF ?_
        refine ⟨_, rfl, p, C, d.dx, _, _, rfl, A5.ob, Tc.cl, Tc.nR, fl4_ro _ _ _ _, _, rfl, d.ro, _, _, _, rfl, rfl, SqL.of A5.ro, atI_nat hr1, r, _, rfl, .inl (SqL.of (s5 _ _ hr2)), ?_⟩
        refine ⟨_, rfl, p, C, d.dx, _, _, rfl, A5.ob, Tc.cl, Tc.nM, fl4_ma _ _ _ _, _, _, rfl, rfl, _, rfl, ?_⟩
        show if decide (((nV (rowAt R now)).length : Int) < (m : Int)) = true then _ else _
        rw [nV_len]
        by_cases hm : (rowAt R now).length < m
        · rw [decide_eq_true (by omega)]
          exact iteT (k2 H5 s5 e hm)
        · rw [decide_eq_false (by omega)]
          refine iteF ⟨_, rfl, p, C, d.dx, _, _, rfl, A5.ob, Tc.cl, Tc.nR, fl4_ro _ _ _ _, _, rfl, d.ro, _, _, _, rfl, rfl, SqL.of A5.ro, atI_nat hr1, r, _, rfl, .inl (SqL.of (s5 _ _ hr2)), fun l hl => ?_⟩
          exact k3 l _ (fun b o hb => by rw [upd_ne (ne_of_none (s5 b o hb) hl)]; exact s5 b o hb) (s5.free hl) upd_same e (by omega)
end
end Fair
end

section
set_option Elab.async false
set_option linter.all false
set_option maxRecDepth 100000
set_option maxHeartbeats 4000000
namespace Fair
open PySem PySem.Spec L2 FM
/-- only the rows are written -/
structure Fr (rs : List Addr) (H H' : Hp) : Prop where
  kp : ∀ b o, H b = some o → b ∉ rs → H' b = some o
  fr : ∀ b, H' b = none → H b = none
theorem Fr.refl {rs : List Addr} (H : Hp) : Fr rs H H := ⟨fun _ _ e _ => e, fun _ e => e⟩
theorem Fr.trans {rs : List Addr} {H H1 H2 : Hp} (a : Fr rs H H1) (b : Fr rs H1 H2) : Fr rs H H2 := ⟨fun c o e n => b.kp c o (a.kp c o e n) n, fun c e => a.fr c (b.fr c e)⟩
theorem Fr.of {rs : List Addr} {H H1 : Hp} (s : Same H H1) : Fr rs H H1 := ⟨fun c o e _ => s c o e, fun c e => s.free e⟩
theorem Fr.upd {rs : List Addr} {H : Hp} {r : Addr} {o : HO} (h : r ∈ rs) (hn : H r ≠ none) : Fr rs H (upd H r o) :=
  ⟨fun c o' e n => by rw [upd_ne (fun z => n (by rw [z]; exact h))]; exact e, fun c e => by
    by_cases z : c = r
    · rw [z, upd_same] at e; cases e
    · rw [upd_ne z] at e; exact e⟩
theorem paired_set {α β : Type} {R S : α → β → Prop} : ∀ {xs : List α} {ys : List β} {i : Nat} {x : α} {y : β}, Paired R xs ys → xs.Nodup → xs[i]? = some x → S x y → (∀ a b, a ≠ x → R a b → S a b) → Paired S xs (ys.set i y)
  | _, _, i, x, y, .nil, _, h, _, _ => by simp at h
  | _, _, 0, x, y, .cons r t, nd, h, hs, hk => by
    simp at h
    subst h
    exact .cons hs (paired_of t fun a b ha e => hk a b (fun z => (List.nodup_cons.mp nd).1 (by rw [← z]; exact ha)) e)
  | _, _, i + 1, x, y, .cons r t, nd, h, hs, hk => by
    rw [List.getElem?_cons_succ] at h
    rw [List.set_cons_succ]
    refine .cons (hk _ _ (fun z => (List.nodup_cons.mp nd).1 (by rw [z]; exact List.mem_of_getElem? h)) r) (paired_set t (List.nodup_cons.mp nd).2 h hs hk)
theorem TA.write {C : Addr} {H : Hp} {p : Addr} {m L : Nat} {ps : PR} {d : TD} {R : List (List Nat)} (A : TA C H p m L ps d R) {u : Nat} {r : Addr} {l : List Nat} (hr : d.rs[u]? = some r) : TA C (upd H r (.lst (nV l))) p m L ps d (R.set u l) := by
  have hm : r ∈ d.rs := List.mem_of_getElem? hr
  have hrr : ∃ xs, H r = some (.lst xs) := by
    obtain ⟨y, _, e⟩ := paired_at A.rr hr
    exact ⟨_, e⟩
  obtain ⟨xs, hrr⟩ := hrr
  have np : p ≠ r := ne_of A.ob hrr (by intro z; cases z)
  refine ⟨by rw [upd_ne np]; exact A.ob, by rw [upd_ne (fun z => A.n1 (by rw [z]; exact hm))]; exact A.ow, by rw [upd_ne (fun z => A.n2 (by rw [z]; exact hm))]; exact A.wi, paired_of A.wr fun a t ha e => ?_, by rw [upd_ne (fun z => A.n3 (by rw [z]; exact hm))]; exact A.ro, ?_, A.nd, A.n1, A.n2, A.n3, A.n4⟩
  · rw [upd_ne (fun z => A.n4 a ha (by rw [z]; exact hm))]; exact e
  · exact paired_set A.rr A.nd hr upd_same fun a b ha e => by rw [upd_ne ha]; exact e
/-- the dict of the moves -/
def CameAt (H : Hp) (cm : Addr) (T : List Ent) : Prop := ∃ kvs : List (Key × V), H cm = some (.dK kvs) ∧ kvs.length = T.length ∧ (∀ x : Nat, (∀ e ∈ T, e.1 ≠ x) → valV kvs (Sum.inl (x : Int)) = none) ∧
  ∀ e ∈ T, ∃ t, valV kvs (Sum.inl ((e.1 : Nat) : Int)) = some (.ref t) ∧ H t = some (.tup [.int (e.2.1 : Nat), .int (e.2.2 : Nat)])
theorem CameAt.fr {H H' : Hp} {cm : Addr} {T : List Ent} {rs : List Addr} (c : CameAt H cm T) (f : Fr rs H H') (hrs : ∀ a ∈ rs, ∃ xs, H a = some (.lst xs)) : CameAt H' cm T := by
  obtain ⟨kvs, h1, h2, h3, h4⟩ := c
  have nl : ∀ b o, H b = some o → (∀ xs, o ≠ .lst xs) → b ∉ rs := fun b o e n z => by
    obtain ⟨xs, q⟩ := hrs b z
    rw [q] at e
    exact n xs (Option.some.inj e).symm
  refine ⟨kvs, f.kp _ _ h1 (nl _ _ h1 (fun xs z => by cases z)), h2, h3, fun e he => ?_⟩
  obtain ⟨t, t1, t2⟩ := h4 e he
  exact ⟨t, t1, f.kp _ _ t2 (nl _ _ t2 (fun xs z => by cases z))⟩
theorem TA.rsl {C : Addr} {H : Hp} {p : Addr} {m L : Nat} {ps : PR} {d : TD} {R : List (List Nat)} (A : TA C H p m L ps d R) : ∀ a ∈ d.rs, ∃ xs, H a = some (.lst xs) := fun a ha => by
  obtain ⟨i, hi, ei⟩ := List.getElem_of_mem ha
  obtain ⟨y, _, e⟩ := paired_at A.rr (List.getElem?_eq_getElem hi)
  rw [ei] at e
  exact ⟨_, e⟩
theorem erase_at : ∀ {l : List Nat} {x : Nat}, x ∈ l → ∃ j, l[j]? = some x ∧ (∀ m, m < j → l[m]? ≠ some x) ∧ l.eraseIdx j = l.erase x
  | [], x, h => by cases h
  | a :: l, x, h => by
    by_cases e : a = x
    · subst e
      exact ⟨0, rfl, fun m hm => absurd hm (by omega), by simp⟩
    · have hx : x ∈ l := by
        rcases List.mem_cons.mp h with z | z
        · exact absurd z.symm e
        · exact z
      obtain ⟨j, h1, h2, h3⟩ := erase_at hx
      refine ⟨j + 1, by simpa using h1, fun m hm => ?_, ?_⟩
      · cases m with
        | zero => simpa using e
        | succ m => simpa using h2 m (by omega)
      · rw [List.eraseIdx_cons_succ, h3, List.erase_cons_tail (by simpa using e)]
theorem erase_map {α β : Type} (f : α → β) : ∀ (l : List α) (j : Nat), (l.map f).eraseIdx j = (l.eraseIdx j).map f
  | [], j => by simp
  | a :: r, 0 => by simp
  | a :: r, j + 1 => by
    have ih := erase_map f r j
    simp [ih]
theorem nV_ints (l : List Nat) : nV l = (l.map fun t : Nat => (t : Int)).map V.int := by unfold nV; rw [List.map_map] <;> rfl
def spMove (C : Addr) : Sp := fun vs H Q _ => ∃ (p cm : Addr) (turn here now m L : Nat) (ps : PR) (d : TD) (R : List (List Nat)) (Tf T1 : List Ent) (c0 : Nat → Nat), vs = [.ref p, .int (turn : Nat), .int (here : Nat), .int (now : Nat), .ref cm] ∧ TA C H p m L ps d R ∧ now < R.length ∧ R.length = L ∧ CameAt H cm Tf ∧ Tf.length ≤ 10000 ∧ m ≤ 4 ∧ (rowAt R now).length ≤ 100 ∧
  (∃ A, Tf = A ++ T1) ∧ Flip (ownT L ps) (winT L ps) m L turn c0 (R.set now (rowAt R now ++ [here])) T1 here ∧
  ∀ R' T' H', Flip (ownT L ps) (winT L ps) m L turn c0 R' T' turn → TA C H' p m L ps d R' → Fr d.rs H H' → Q .non H'
section
variable {P : Program} {w : World} {K : PySem.W.Frag} {mg : Str → Option Value} {base : Heap} {f C : Addr} {fd : FuncData}
theorem scMove : FnScope ["self", "turn", "here", "now", "came", "before", "unit"] ["self", "turn", "here", "now", "came"] (defScope sMove) := ⟨rfl, rfl, rfl, by decide +kernel, rfl, by decide +kernel, by decide +kernel⟩
theorem ok_move (F : FnP K "move" "Turns.move" sMove f fd) (Tc : TC K mg C) : FnOk P w K mg base CX0 1 f fd ["self", "turn", "here", "now", "came"] (spMove C) := by
  refine okN F scMove (fun vs H Q E h => ?_) (fun cdv A outer s H vs Q E hr h => ?_)
  · obtain ⟨p, cm, turn, here, now, m, L, ps, d, R, Tf, T1, c0, rfl, _⟩ := h
    rfl
  · obtain ⟨p, cm, turn, here, now, m, L, ps, d, R, Tf, T1, c0, rfl, TAh, hnow, hRL, Cm, hTf, hm4, hlen, hsuf, FL, k⟩ := h
    have hu := hu_of hr
    obtain ⟨r, hr0, hr1, hr2, hr3⟩ := TAh.row hnow
    refine ⟨_, pss_cons (ps_expr (pe_bm PySem.F.plainAttrs_list PySem.F.slot_list_append PySem.F.type_list_append mt_append (pe_ix ix_list (pe_fld (pv 0) rfl) (pv 3) (fun _ _ => rfl)) (pa_cons (pv 2) pa_nil)))
      (pss_one (ps_while PassesOwn.never (pt_cmpR op_ne (pv 2) (pv 1) (nomark _))
        (pss_cons (ps_asg (pe_dget hu (pv 4) (pv 2) (fun _ _ => rfl)) (pg_tup (by rfl) (pgs_cons (pg_name (i := 5) scMove.nd rfl (.inl rfl)) (pgs_cons (pg_name (i := 6) scMove.nd rfl (.inl rfl)) pgs_nil))))
        (pss_cons (ps_expr (pe_bm PySem.F.plainAttrs_list PySem.F.slot_list_remove PySem.F.type_list_remove mt_remove (pe_ix ix_list (pe_fld (pv 0) rfl) (pv 6) (fun _ _ => rfl)) (pa_cons (pv 2) pa_nil)))
        (pss_cons (ps_expr (pe_bm PySem.F.plainAttrs_list PySem.F.slot_list_append PySem.F.type_list_append mt_append (pe_ix ix_list (pe_fld (pv 0) rfl) (pv 6) (fun _ _ => rfl)) (pa_cons (pv 5) pa_nil)))
        (pss_one (ps_set (i := 2) scMove.nd rfl (.inl rfl) (pv 5)))))))), ?_⟩
    refine ⟨_, rfl, p, C, d.dx, _, _, rfl, TAh.ob, Tc.cl, Tc.nR, fl4_ro _ _ _ _, _, rfl, d.ro, _, _, _, rfl, rfl, SqL.of TAh.ro, atI_nat hr1, .inl ⟨rfl, _, SqL.of hr2⟩, _, rfl, r, _, _, rfl, rfl, hr2, (by rw [nV_len]; exact small1000 (by omega)), ?_⟩
    rw [← nV_app]
    have A1 := TAh.write (l := rowAt R now ++ [here]) hr0
    have F1 : Fr d.rs H (upd H r (.lst (nV (rowAt R now ++ [here])))) := Fr.upd hr3 (by rw [hr2]; simp)
    refine ⟨fun n σ H2 => ∃ (R' : List (List Nat)) (T' : List Ent) (here' : Nat) (v5 v6 : Option V), σ = [some (.ref p), some (.int (turn : Nat)), some (.int (here' : Nat)), some (.int (now : Nat)), some (.ref cm), v5, v6] ∧ T'.length = n ∧ (∃ A, Tf = A ++ T') ∧
        Flip (ownT L ps) (winT L ps) m L turn c0 R' T' here' ∧ TA C H2 p m L ps d R' ∧ Fr d.rs H H2, ⟨T1.length, _, T1, here, _, _, rfl, rfl, hsuf, FL, A1, F1⟩, ?_⟩
    rintro n σ H2 ⟨R', T', here', v5, v6, rfl, hn, ⟨A0, hA0⟩, FL', A2, F2⟩
    refine ⟨_, rfl, _, rfl, rfl, _, rfl, ?_⟩
    by_cases e : here' = turn
    · show if (!decide (V.int (here' : Nat) = V.int (turn : Nat))) = true then _ else _
      rw [decide_eq_true (by rw [e])]
      refine iteF ?_
      subst e
      exact k R' T' H2 FL' A2 F2
    · show if (!decide (V.int (here' : Nat) = V.int (turn : Nat))) = true then _ else _
      rw [decide_eq_false (fun z => e (by have := V.int.inj z; omega))]
      refine iteT ?_
      refine ⟨fun σ' H' => ∃ m', m' < n ∧ ∃ (R' : List (List Nat)) (T' : List Ent) (here' : Nat) (v5 v6 : Option V), σ' = [some (.ref p), some (.int (turn : Nat)), some (.int (here' : Nat)), some (.int (now : Nat)), some (.ref cm), v5, v6] ∧ T'.length = m' ∧ (∃ A, Tf = A ++ T') ∧
        Flip (ownT L ps) (winT L ps) m L turn c0 R' T' here' ∧ TA C H' p m L ps d R' ∧ Fr d.rs H H', fun σ' H' q => q, ?_⟩
      rcases FL'.top with ⟨z, _⟩ | ⟨hh, uu, T2, rfl⟩
      · exact absurd z e
      · obtain ⟨g1, g2, g3, g4⟩ := FL'.good (here', hh, uu) List.mem_cons_self
        replace g1 : uu < L := g1
        replace g2 : here' ∈ rowAt R' uu := g2
        have hul : uu < R'.length := by rw [FL'.valid.len]; exact g1
        obtain ⟨r2, q0, q1, q2, q3⟩ := A2.row hul
        obtain ⟨kvs, c1, c2, c3, c4⟩ := Cm.fr F2 TAh.rsl
        obtain ⟨t, t1, t2⟩ := c4 (here', hh, uu) (by rw [hA0]; exact List.mem_append_right _ List.mem_cons_self)
        refine ⟨_, rfl, _, rfl, cm, .ref t, rfl, t1 ▸ DGet.k (k := Sum.inl ((here' : Nat) : Int)) c1, t, _, rfl, SqT.of t2, rfl, _, _, rfl, _, _, rfl, rfl, ?_⟩
        obtain ⟨j, j1, j2, j3⟩ := erase_at g2
        refine ⟨_, rfl, p, C, d.dx, _, _, rfl, A2.ob, Tc.cl, Tc.nR, fl4_ro _ _ _ _, _, rfl, d.ro, _, _, _, rfl, rfl, SqL.of A2.ro, atI_nat q1, .inl ⟨rfl, _, SqL.of q2⟩, _, rfl, r2, (rowAt R' uu).map (fun t : Nat => (t : Int)), (here' : Nat), j, rfl, rfl, (by rw [← nV_ints]; exact q2), (by rw [List.getElem?_map, j1] <;> rfl), (fun mm hmm z => j2 mm hmm ?_), ?_⟩
        · rw [List.getElem?_map] at z
          cases e3 : (rowAt R' uu)[mm]? with
          | none => rw [e3] at z; cases z
          | some y =>
            rw [e3] at z
            have e5 : (y : Int) = (here' : Int) := Option.some.inj z
            have : y = here' := by omega
            rw [this]
        · have e4 : ((((rowAt R' uu).map (fun t : Nat => (t : Int))).eraseIdx j).map V.int) = nV ((rowAt R' uu).erase here') := by
            rw [nV_ints, ← j3, erase_map]
          rw [e4]
          have A3 := A2.write (l := (rowAt R' uu).erase here') q0
          have F3 := F2.trans (Fr.upd (o := .lst (nV ((rowAt R' uu).erase here'))) q3 (by rw [q2]; simp))
          have hcap := FL'.valid.cap uu g1
          have hle : ((rowAt R' uu).erase here').length ≤ 100 := Nat.le_trans (List.length_erase_le) (by omega)
          refine ⟨_, rfl, p, C, d.dx, _, _, rfl, A3.ob, Tc.cl, Tc.nR, fl4_ro _ _ _ _, _, rfl, d.ro, _, _, _, rfl, rfl, SqL.of A3.ro, atI_nat q1, .inl ⟨rfl, _, SqL.of upd_same⟩, _, rfl, r2, _, _, rfl, rfl, upd_same, (by rw [nV_len]; exact small1000 (by omega)), ?_⟩
          rw [← nV_app]
          have A4 := A3.write (l := (rowAt R' uu).erase here' ++ [hh]) q0
          rw [List.set_set] at A4
          have F4 := F3.trans (Fr.upd (o := .lst (nV ((rowAt R' uu).erase here' ++ [hh]))) q3 (by rw [upd_same]; simp))
          obtain ⟨T3, ⟨B, hB⟩, FL3⟩ := FL'.step
          refine ⟨_, rfl, T3.length, ?_, _, T3, hh, _, _, rfl, rfl, ⟨A0 ++ (here', hh, uu) :: B, ?_⟩, FL3, A4, F4⟩
          · rw [← hn, List.length_cons, hB, List.length_append]; omega
          · rw [hA0, hB, List.append_assoc, List.cons_append]
end
end Fair
end

section
set_option Elab.async false
set_option linter.all false
set_option maxRecDepth 100000
set_option maxHeartbeats 4000000
namespace Fair
open PySem PySem.Spec L2 FM
theorem inV_int {a : Nat} : ∀ {l : List Nat}, inV (.int (a : Nat)) (nV l) = decide (a ∈ l)
  | [] => rfl
  | b :: l => by
    have ih := inV_int (a := a) (l := l)
    show ((b : Int) == (a : Int) || inV (.int (a : Nat)) (nV l)) = _
    rw [ih]
    by_cases h : b = a
    · subst h
      rw [beq_self_eq_true, Bool.true_or, decide_eq_true List.mem_cons_self]
    · have : ((b : Int) == (a : Int)) = false := by
        rw [beq_eq_false_iff_ne]; omega
      rw [this, Bool.false_or]
      congr 1
      simp [Ne.symm h]
theorem nV_flat (l : List Nat) : (nV l).all flatV = true := by
  rw [List.all_eq_true]
  intro x hx
  obtain ⟨t, _, rfl⟩ := List.mem_map.mp hx
  rfl
/-- the search's own objects -/
structure PlSt (C : Addr) (H0 H2 : Hp) (p : Addr) (m L : Nat) (ps : PR) (d : TD) (R : List (List Nat)) (sn qu cm : Addr) (seen queue : List Nat) (T : List Ent) : Prop where
  sn' : H2 sn = some (.lst (nV seen))
  qu' : H2 qu = some (.lst (nV queue))
  cm' : CameAt H2 cm T
  ne : sn ≠ qu
  ta : TA C H2 p m L ps d R
  same : Same H0 H2
  n1 : H0 sn = none
  n2 : H0 qu = none
  n3 : H0 cm = none
theorem CameAt.same {H H' : Hp} {cm : Addr} {T : List Ent} (c : CameAt H cm T) (s : ∀ b o, H b = some o → (∀ xs, o ≠ .lst xs) → H' b = some o) : CameAt H' cm T := by
  obtain ⟨kvs, h1, h2, h3, h4⟩ := c
  refine ⟨kvs, s _ _ h1 (fun xs z => by cases z), h2, h3, fun e he => ?_⟩
  obtain ⟨t, t1, t2⟩ := h4 e he
  exact ⟨t, t1, s _ _ t2 (fun xs z => by cases z)⟩
theorem PlSt.grow {C : Addr} {H0 H2 H3 : Hp} {p : Addr} {m L : Nat} {ps : PR} {d : TD} {R : List (List Nat)} {sn qu cm : Addr} {seen queue : List Nat} {T : List Ent} (S : PlSt C H0 H2 p m L ps d R sn qu cm seen queue T) (s : Same H2 H3) : PlSt C H0 H3 p m L ps d R sn qu cm seen queue T :=
  ⟨s _ _ S.sn', s _ _ S.qu', S.cm'.same fun b o e _ => s b o e, S.ne, S.ta.same s, S.same.trans s, S.n1, S.n2, S.n3⟩
/-- a list of one's own is written -/
theorem TA.own_upd {C : Addr} {H0 H2 : Hp} {p : Addr} {m L : Nat} {ps : PR} {d : TD} {R : List (List Nat)} (A : TA C H0 p m L ps d R) (s : Same H0 H2) {a : Addr} {o : HO} (h : H0 a = none) : TA C (upd H2 a o) p m L ps d R ∧ Same H0 (upd H2 a o) := by
  have s' : Same H0 (upd H2 a o) := fun b u e => by rw [upd_ne (ne_of_none e h)]; exact s b u e
  exact ⟨A.same s', s'⟩
def stP (p : Addr) (turn : Nat) (sn qu cm : Addr) (v5 v6 v7 v8 : Option V) : L2.St := [some (.ref p), some (.int (turn : Nat)), some (.ref sn), some (.ref qu), some (.ref cm), v5, v6, v7, v8]
theorem psImp {X : Cx} {st : Stmt} {t t' : TS} (h : PS X st t) (i : ∀ D σ H, t' D σ H → t D σ H) : PS X st t' := ⟨fun pins s σ H D I q => h.run pins s σ H D I (i D σ H q)⟩
/-- for other in some: .. -/
def tPush (C : Addr) : TS := fun D σ H2 => ∃ (H0 : Hp) (p : Addr) (turn m L : Nat) (ps : PR) (d : TD) (R : List (List Nat)) (sn qu cm l : Addr) (here now : Nat) (done queue : List Nat) (T : List Ent) (ws cand : List Nat) (v8 : Option V), σ = stP p turn sn qu cm (some (.int (here : Nat))) (some (.int (now : Nat))) (some (.ref l)) v8 ∧
  TA C H0 p m L ps d R ∧ PlSt C H0 H2 p m L ps d R sn qu cm (seenOf turn T) queue T ∧ Mid (ownT L ps) (winT L ps) m L turn R done here queue T ws ∧ Valid (ownT L ps) (winT L ps) m L R ∧ Upto turn R ∧ turn < nT L ps ∧ nT L ps ≤ 4000 ∧
  H2 l = some (.lst (nV cand)) ∧ l ≠ sn ∧ l ≠ qu ∧ (∀ o ∈ cand, EntOk (ownT L ps) (winT L ps) m L R o here now) ∧
  ∀ H3 queue' T' v8', PlSt C H0 H3 p m L ps d R sn qu cm (seenOf turn T') queue' T' → Mid (ownT L ps) (winT L ps) m L turn R done here queue' T' ws → (∀ o ∈ cand, o ∈ seenOf turn T') → D.nx (stP p turn sn qu cm (some (.int (here : Nat))) (some (.int (now : Nat))) (some (.ref l)) v8') H3
def spPlace (C : Addr) : Sp := fun vs H Q _ => ∃ (p : Addr) (turn m L : Nat) (ps : PR) (d : TD) (R : List (List Nat)), vs = [.ref p, .int (turn : Nat)] ∧ TA C H p m L ps d R ∧ turn < nT L ps ∧ m ≤ 4 ∧ nT L ps ≤ 4000 ∧ Suits L ps ∧
  Valid (ownT L ps) (winT L ps) m L R ∧ Upto turn R ∧ Fluid (nT L ps) L m (ownT L ps) (winT L ps) ∧
  ∀ R' H', TA C H' p m L ps d R' → Valid (ownT L ps) (winT L ps) m L R' → Upto (turn + 1) R' → Fr d.rs H H' → Q (.bl true) H'
section
variable {P : Program} {w : World} {K : PySem.W.Frag} {mg : Str → Option Value} {base : Heap} {f C : Addr} {fd : FuncData}
def pushFor : Stmt := match defBody sPlace with
  | [_, .While _ [_, .For _ _ [.If _ [_, _, s] _ _] _ _] _ _, _] => s
  | _ => .Pass ⟨0, 0, 0, 0⟩
theorem scPlace : FnScope ["self", "turn", "seen", "queue", "came", "here", "now", "some", "other"] ["self", "turn"] (defScope sPlace) := ⟨rfl, rfl, rfl, by decide +kernel, rfl, by decide +kernel, by decide +kernel⟩
theorem ps_push {cdv : Value} {A : Around} {outer : List Env} {s : Shared} {H : Hp} {E : XK} (hu : (A.deeper (PyProof.Rows.envOfC "Turns.place" (defScope sPlace) s.heap.objs.size f cdv)).units + 1 < cLine) :
    PS (cxOf CX0 P w K mg base ["self", "turn", "seen", "queue", "came", "here", "now", "some", "other"] "Turns.place" (defScope sPlace) f cdv A outer s H E).nox pushFor (tPush C) := by
  refine psImp (t := _) (ps_for PassesOwn.never rfl (pi_list (pv 7)) (pg_name (i := 8) scPlace.nd rfl (.inl rfl))
    (pss_one (ps_if (pt_cmpR op_notIn_seq (pv 8) (pv 2) (by rfl))
      (pss_cons (ps_expr (pe_bm PySem.F.plainAttrs_list PySem.F.slot_list_append PySem.F.type_list_append mt_append (pv 2) (pa_cons (pv 8) pa_nil)))
      (pss_cons (ps_expr (pe_bm PySem.F.plainAttrs_list PySem.F.slot_list_append PySem.F.type_list_append mt_append (pv 3) (pa_cons (pv 8) pa_nil)))
      (pss_one (ps_dput hu (pv 4) (pv 8) (pe_tup (pa_cons (pv 5) (pa_cons (pv 6) pa_nil))) rfl)))) pss_nil))) ?_
  rintro D σ H2 ⟨H0, p, turn, m, L, ps, d, R, sn, qu, cm, l, here, now, done, queue, T, ws, cand, v8, rfl, A0, S, M, va, up, htn, hnT, hl, ns, nq, hc, k⟩
  refine ⟨_, rfl, l, rfl, ⟨_, SqL.of hl⟩, for_list (K := K) (a := l) (xs := nV cand) (fun i σ H3 => ∃ queue' T' v8', σ = stP p turn sn qu cm (some (.int (here : Nat))) (some (.int (now : Nat))) (some (.ref l)) v8' ∧ H3 l = some (.lst (nV cand)) ∧ PlSt C H0 H3 p m L ps d R sn qu cm (seenOf turn T') queue' T' ∧
    Mid (ownT L ps) (winT L ps) m L turn R done here queue' T' ws ∧ ∀ o ∈ cand.take i, o ∈ seenOf turn T') ⟨queue, T, v8, rfl, hl, S, M, fun o ho => by simp at ho⟩ (fun i σ H3 _ ⟨_, _, _, _, e, _⟩ => SqL.of e) ?_ ?_⟩
  · rintro i x σ H3 hi ⟨queue', T', v8', rfl, hl3, S3, M3, hs3⟩
    obtain ⟨o, ho, rfl⟩ := nV_get hi
    have hoc : o ∈ cand := List.mem_of_getElem? ho
    have et : cand.take (i + 1) = cand.take i ++ [o] := by rw [List.take_add_one, ho] <;> rfl
    refine ⟨_, rfl, _, rfl, sn, _, rfl, .inl (SqL.of S3.sn'), rfl, nV_flat _, _, rfl, ?_⟩
    show if (!inV (V.int (o : Nat)) (nV (seenOf turn T'))) = true then _ else _
    rw [inV_int]
    by_cases hin : o ∈ seenOf turn T'
    · rw [decide_eq_true hin]
      refine iteF ⟨queue', T', _, rfl, hl3, S3, M3, fun o' ho' => ?_⟩
      rw [et] at ho'
      rcases List.mem_append.mp ho' with z | z
      · exact hs3 o' z
      · rw [List.mem_singleton.mp z]; exact hin
    · rw [decide_eq_false hin]
      refine iteT ?_
      have dl := M3.done_le va up htn
      have sl : (seenOf turn T').length ≤ 4000 := by
        rw [M3.eq, List.length_append, List.length_cons]; omega
      have ql : queue'.length ≤ 4000 := by omega
      refine ⟨_, rfl, .inl ⟨rfl, _, SqL.of S3.sn'⟩, _, rfl, sn, _, _, rfl, rfl, S3.sn', (by rw [nV_len, sizeLine_eq]; omega), ?_⟩
      have q1 : upd H3 sn (.lst (nV (seenOf turn T') ++ [V.int (o : Nat)])) qu = some (.lst (nV queue')) := by rw [upd_ne S3.ne.symm]; exact S3.qu'
      refine ⟨_, rfl, .inl ⟨rfl, _, SqL.of q1⟩, _, rfl, qu, _, _, rfl, rfl, q1, (by rw [nV_len, sizeLine_eq]; omega), ?_⟩
      refine ⟨_, rfl, _, rfl, (by show 2 ≤ sizeLine; decide), fun t ht => ?_⟩
      obtain ⟨kvs, c1, c2, c3, c4⟩ := S3.cm'
      have ncs : cm ≠ sn := ne_of c1 S3.sn' (by intro z; cases z)
      have ncq : cm ≠ qu := ne_of c1 S3.qu' (by intro z; cases z)
      have nct : cm ≠ t := ne_of_none (o := .dK kvs) (by rw [upd_ne ncq, upd_ne ncs]; exact c1) ht
      have nkey : ∀ e ∈ T', e.1 ≠ o := fun e he z => hin (mem_seen.mpr (.inr ⟨e, he, z⟩))
      have hv : valV kvs (Sum.inl ((o : Nat) : Int)) = none := c3 o nkey
      have nts : t ≠ sn := fun z => by rw [z, upd_ne S3.ne, upd_same] at ht; cases ht
      have ntq : t ≠ qu := fun z => by rw [z, upd_same] at ht; cases ht
      have ht3 : H3 t = none := by rw [upd_ne ntq, upd_ne nts] at ht; exact ht
      have kl : kvs.length ≤ 4000 := by
        have e1 : T'.length + 1 = (seenOf turn T').length := by unfold seenOf; simp
        omega
      refine ⟨_, rfl, _, rfl, cm, _, rfl, DPut.k (k := Sum.inl ((o : Nat) : Int)) (kvs := kvs) (by rw [upd_ne nct, upd_ne ncq, upd_ne ncs]; exact c1) (by rw [sizeLine_eq]; omega), ?_⟩
      rw [putK_new _ hv]
      have old : ∀ b u, H3 b = some u → b ≠ sn → b ≠ qu → b ≠ cm → upd (upd (upd (upd H3 sn (.lst (nV (seenOf turn T') ++ [V.int (o : Nat)]))) qu (.lst (nV queue' ++ [V.int (o : Nat)]))) t (.tup [.int (here : Nat), .int (now : Nat)])) cm (.dK (kvs ++ [(Sum.inl ((o : Nat) : Int), V.ref t)])) b = some u := fun b u e h1 h2 h3 => by
        rw [upd_ne h3, upd_ne (ne_of_none e ht3), upd_ne h2, upd_ne h1]; exact e
      have hs' : Same H0 (upd (upd (upd (upd H3 sn (.lst (nV (seenOf turn T') ++ [V.int (o : Nat)]))) qu (.lst (nV queue' ++ [V.int (o : Nat)]))) t (.tup [.int (here : Nat), .int (now : Nat)])) cm (.dK (kvs ++ [(Sum.inl ((o : Nat) : Int), V.ref t)]))) := fun b u e =>
        old b u (S3.same b u e) (ne_of_none e S3.n1) (ne_of_none e S3.n2) (ne_of_none e S3.n3)
      refine ⟨queue' ++ [o], (o, here, now) :: T', _, rfl, ?_, ⟨?_, ?_, ?_, S3.ne, A0.same hs', hs', S3.n1, S3.n2, S3.n3⟩, M3.push (hc o hoc) hin, fun o' ho' => ?_⟩
      · exact old l _ hl3 ns nq (ne_of hl3 c1 (by intro z; cases z))
      · rw [upd_ne ncs.symm, upd_ne nts.symm, upd_ne S3.ne, upd_same, seen_push, nV_app]
      · rw [upd_ne ncq.symm, upd_ne ntq.symm, upd_same, nV_app]
      · refine ⟨_, upd_same, by simp [c2], fun y hy => ?_, fun e he => ?_⟩
        · rw [valV_snoc _ _ _ _ hv, if_neg (fun z => hy _ List.mem_cons_self (by have := Sum.inl.inj z; show o = y; omega))]
          exact c3 y fun e he => hy e (List.mem_cons_of_mem _ he)
        · rcases List.mem_cons.mp he with z | he
          · subst z
            exact ⟨t, by rw [valV_snoc _ _ _ _ hv, if_pos rfl], by rw [upd_ne nct.symm, upd_same]⟩
          · obtain ⟨t', t1, t2⟩ := c4 e he
            refine ⟨t', by rw [valV_snoc _ _ _ _ hv, if_neg (fun z => nkey e he (by have := Sum.inl.inj z; omega))]; exact t1, old t' _ t2 (ne_of t2 S3.sn' (by intro z; cases z)) (ne_of t2 S3.qu' (by intro z; cases z)) (ne_of t2 c1 (by intro z; cases z))⟩
      · rw [seen_push]
        rw [et] at ho'
        rcases List.mem_append.mp ho' with z | z
        · exact List.mem_append_left _ (hs3 o' z)
        · rw [List.mem_singleton.mp z]; simp
  · rintro σ H3 ⟨queue', T', v8', rfl, hl3, S3, M3, hs3⟩
    rw [nV_len, List.take_length] at hs3
    exact k H3 queue' T' v8' S3 M3 hs3
end
end Fair
end

section
set_option Elab.async false
set_option linter.all false
set_option maxRecDepth 100000
set_option maxHeartbeats 4000000
namespace Fair
open PySem PySem.Spec L2 FM
theorem mem_winL {L : Nat} {ps : PR} {t u : Nat} (h : winT L ps t u) : ∃ i, i < (winL ps (ownT L ps t, ixT L ps t)).length ∧ u = lo (pc ps (ownT L ps t)) (pg ps (ownT L ps t)) (ixT L ps t) + i := by
  obtain ⟨h1, h2⟩ := h
  refine ⟨u - lo (pc ps (ownT L ps t)) (pg ps (ownT L ps t)) (ixT L ps t), ?_, by omega⟩
  unfold winL
  rw [List.length_map, List.length_range]
  simp only
  omega
theorem winL_get {ps : PR} {k j i : Nat} {x : V} (h : (winL ps (k, j))[i]? = some x) : x = .int ((lo (pc ps k) (pg ps k) j + i : Nat) : Int) ∧ lo (pc ps k) (pg ps k) j + i < hi (pc ps k) (pg ps k) j := by
  unfold winL at h
  simp only at h
  rw [List.getElem?_map] at h
  by_cases hi' : i < hi (pc ps k) (pg ps k) j - lo (pc ps k) (pg ps k) j
  · rw [List.getElem?_range hi'] at h
    exact ⟨(Option.some.inj h).symm, by omega⟩
  · rw [List.getElem?_eq_none (by simpa using hi')] at h
    cases h
section
variable {P : Program} {w : World} {K : PySem.W.Frag} {mg : Str → Option Value} {base : Heap} {f C : Addr} {fd : FuncData}
theorem ok_place {fR fM : Addr} {fdR fdM : FuncData} (F : FnP K "place" "Turns.place" sPlace f fd) (Tc : TC K mg C)
    (GR : FnOk P w K mg base CX0 1 fR fdR ["self", "turn", "now"] (spRivals C)) (mR : Meth K C "rivals" fR) (bR : Binds K fdR ["self", "turn", "now"] [])
    (GM : FnOk P w K mg base CX0 1 fM fdM ["self", "turn", "here", "now", "came"] (spMove C)) (mM : Meth K C "move" fM) (bM : Binds K fdM ["self", "turn", "here", "now", "came"] []) :
    FnOk P w K mg base CX0 2 f fd ["self", "turn"] (spPlace C) := by
  refine okN F scPlace (fun vs H Q E h => ?_) (fun cdv A outer s H vs Q E hr h => ?_)
  · obtain ⟨p, turn, m, L, ps, d, R, rfl, _⟩ := h
    rfl
  · obtain ⟨p, turn, m, L, ps, d, R, rfl, A0, htn, hm4, hnT, su, va, up, fl, k⟩ := h
    have hu := hu_of hr
    refine ⟨_, pss_cons (ps_par3 (i := 2) (j := 3) (l := 4) rfl scPlace.nd rfl rfl rfl (by decide) (by decide) (by decide) rfl rfl rfl (pa_cons (pe_lst (pa_cons (pv 1) pa_nil)) (pa_cons (pe_lst (pa_cons (pv 1) pa_nil)) (pa_cons pe_dnewK pa_nil))) rfl)
      (pss_cons (ps_while PassesOwn.never (pt_truth (pv 3) (by intro _; rfl))
        (pss_cons (ps_set (i := 5) scPlace.nd rfl (.inl rfl) (pe_bm PySem.F.plainAttrs_list PySem.F.slot_list_pop PySem.F.type_list_pop mt_popAt (pv 3) (pa_cons pe_int pa_nil)))
        (pss_one (ps_for PassesOwn.never rfl (pi_list (pe_ix ix_list (pe_fld (pv 0) rfl) (pv 5) (fun _ _ => rfl))) (pg_name (i := 6) scPlace.nd rfl (.inl rfl))
          (pss_one (ps_if (pt_cmpR op_notIn_seq (pv 5) (pe_ix ix_list (pe_fld (pv 0) rfl) (pv 6) (fun _ _ => rfl)) (by rfl))
            (pss_cons (ps_set (i := 7) scPlace.nd rfl (.inl rfl) (pe_meth (pv 0) Tc.cl mR GR hr bR .nil pass0 (pa_cons (pv 5) (pa_cons (pv 6) pa_nil))))
            (pss_cons (ps_if (pt_cmp (pc_isN (pv 7)))
              (pss_cons (ps_expr (pe_meth (pv 0) Tc.cl mM GM hr bM .nil pass0 (pa_cons (pv 1) (pa_cons (pv 5) (pa_cons (pv 6) (pa_cons (pv 4) pa_nil))))))
              (pss_one (ps_ret pe_bl))) pss_nil)
            (pss_one (show PS _ pushFor (tPush C) from ps_push hu)))) pss_nil))))))
      (pss_one (ps_ret pe_bl))), ?_⟩
    -- seen, queue, came = [turn], [turn], {}
    refine ⟨_, rfl, (by show 1 ≤ sizeLine; decide), fun sn hsn => ?_⟩
    refine ⟨_, rfl, (by show 1 ≤ sizeLine; decide), fun qu hqu => ?_⟩
    refine fun cm hcm => ⟨_, _, _, rfl, ?_⟩
    have nsq : sn ≠ qu := ne_of_none (o := .lst [.int (turn : Nat)]) upd_same hqu
    have nqc : qu ≠ cm := ne_of_none (o := .lst [.int (turn : Nat)]) upd_same hcm
    have nsc : sn ≠ cm := ne_of_none (o := .lst [.int (turn : Nat)]) (by rw [upd_ne nsq]; exact upd_same) hcm
    have fqu : H qu = none := by rw [upd_ne nsq.symm] at hqu; exact hqu
    have fcm : H cm = none := by rw [upd_ne nqc.symm, upd_ne nsc.symm] at hcm; exact hcm
    have s1 : Same H (upd (upd (upd H sn (.lst [.int (turn : Nat)])) qu (.lst [.int (turn : Nat)])) cm (.dK [])) := fun b o e => by
      rw [upd_ne (ne_of_none e fcm), upd_ne (ne_of_none e fqu), upd_ne (ne_of_none e hsn)]; exact e
    have S1 : PlSt C H (upd (upd (upd H sn (.lst [.int (turn : Nat)])) qu (.lst [.int (turn : Nat)])) cm (.dK [])) p m L ps d R sn qu cm (seenOf turn []) [turn] [] := by
      refine ⟨?_, ?_, ⟨[], upd_same, rfl, fun _ _ => rfl, fun e he => absurd he (by simp)⟩, nsq, A0.same s1, s1, hsn, fqu, fcm⟩
      · rw [upd_ne nsc, upd_ne nsq]; exact upd_same
      · rw [upd_ne nqc]; exact upd_same
    -- while queue
    refine ⟨fun n σ H2 => ∃ done queue T v5 v6 v7 v8, σ = stP p turn sn qu cm v5 v6 v7 v8 ∧ PlSt C H H2 p m L ps d R sn qu cm (seenOf turn T) queue T ∧ Bfs (ownT L ps) (winT L ps) m L turn R done queue T ∧ n = nT L ps - done.length,
      ⟨_, [], [turn], [], _, _, _, _, rfl, S1, Bfs.start, rfl⟩, ?_⟩
    rintro n σ H2 ⟨done, queue, T, v5, v6, v7, v8, rfl, S2, B2, hn⟩
    refine ⟨_, rfl, _, .inl ⟨_, SqL.of S2.qu', rfl⟩, ?_⟩
    cases queue with
    | nil =>
      exact (B2.never va up htn fl).elim
    | cons here queue =>
      refine iteT ?_
      refine ⟨fun σ' H' => ∃ m', m' < n ∧ ∃ done queue T v5 v6 v7 v8, σ' = stP p turn sn qu cm v5 v6 v7 v8 ∧ PlSt C H H' p m L ps d R sn qu cm (seenOf turn T) queue T ∧ Bfs (ownT L ps) (winT L ps) m L turn R done queue T ∧ m' = nT L ps - done.length, fun σ' H' q => q, ?_⟩
      -- here = queue.pop(0)
      refine ⟨_, rfl, .inl ⟨rfl, _, SqL.of S2.qu'⟩, qu, _, 0, 0, .int (here : Nat), rfl, rfl, S2.qu', by decide, by decide, ?_, rfl, ?_⟩
      · rw [nV_len]; unfold seqIndex?; simp
      · have M2 := B2.pop
        have S3 : PlSt C H (upd H2 qu (.lst (nV queue))) p m L ps d R sn qu cm (seenOf turn T) queue T := by
          obtain ⟨a3, s3⟩ := A0.own_upd S2.same (o := .lst (nV queue)) S2.n2
          refine ⟨by rw [upd_ne S2.ne]; exact S2.sn', upd_same, S2.cm'.same fun b o e h => ?_, S2.ne, a3, s3, S2.n1, S2.n2, S2.n3⟩
          rw [upd_ne (fun z => by rw [z, S2.qu'] at e; exact h _ (Option.some.inj e).symm)]
          exact e
        have hhere : here < nT L ps := M2.seen_lt va up htn here M2.here_mem
        -- for now in self.window[here]
        obtain ⟨wa, w1, w2, w3⟩ := S3.ta.win hhere
        have w2' : H wa = some (.lst (winL ps (ownT L ps here, ixT L ps here))) := by
          obtain ⟨wa', x1, x2, x3⟩ := A0.win hhere
          rw [x1] at w1
          have := V.ref.inj (Option.some.inj w1)
          rw [← this]; exact x2
        refine ⟨_, rfl, p, C, d.dx, _, _, rfl, S3.ta.ob, Tc.cl, Tc.nW, fl4_wi _ _ _ _, _, rfl, d.wi, _, _, _, rfl, rfl, SqL.of S3.ta.wi, atI_nat w1, wa, rfl, ⟨_, SqL.of w2⟩, ?_⟩
        refine for_list (K := K) (a := wa) (xs := winL ps (ownT L ps here, ixT L ps here)) (fun i σ H4 => ∃ queue T v6 v7 v8, σ = stP p turn sn qu cm (some (.int (here : Nat))) v6 v7 v8 ∧ PlSt C H H4 p m L ps d R sn qu cm (seenOf turn T) queue T ∧
          Mid (ownT L ps) (winT L ps) m L turn R done here queue T ((List.range i).map fun j => lo (pc ps (ownT L ps here)) (pg ps (ownT L ps here)) (ixT L ps here) + j)) ⟨queue, T, _, _, _, rfl, S3, M2⟩ (fun i σ H4 _ ⟨_, _, _, _, _, _, S, _⟩ => SqL.of (S.same _ _ w2')) ?_ ?_
        · rintro i x σ H4 hi ⟨queue, T, v6, v7, v8, rfl, S4, M4⟩
          obtain ⟨rfl, hlt⟩ := winL_get hi
          have hwin : winT L ps here (lo (pc ps (ownT L ps here)) (pg ps (ownT L ps here)) (ixT L ps here) + i) := ⟨Nat.le_add_right _ _, hlt⟩
          have hnowL := win_lt su hhere hwin
          generalize hnow : lo (pc ps (ownT L ps here)) (pg ps (ownT L ps here)) (ixT L ps here) + i = now at *
          have hmap : ((List.range (i + 1)).map fun j => lo (pc ps (ownT L ps here)) (pg ps (ownT L ps here)) (ixT L ps here) + j) = ((List.range i).map fun j => lo (pc ps (ownT L ps here)) (pg ps (ownT L ps here)) (ixT L ps here) + j) ++ [now] := by
            rw [List.range_succ, List.map_append, List.map_singleton, hnow]
          have hnowR : now < R.length := by rw [va.len]; exact hnowL
          obtain ⟨r, r0, r1, r2, r3⟩ := S4.ta.row hnowR
          refine ⟨_, rfl, _, rfl, p, C, d.dx, _, _, rfl, S4.ta.ob, Tc.cl, Tc.nR, fl4_ro _ _ _ _, _, rfl, d.ro, _, _, _, rfl, rfl, SqL.of S4.ta.ro, atI_nat r1, r, _, rfl, .inl (SqL.of r2), rfl, nV_flat _, _, rfl, ?_⟩
          show if (!inV (V.int (here : Nat)) (nV (rowAt R now))) = true then _ else _
          rw [inV_int]
          by_cases hin : here ∈ rowAt R now
          · rw [decide_eq_true hin]
            refine iteF ⟨queue, T, _, _, _, rfl, S4, ?_⟩
            rw [hmap]
            exact M4.unit (.inl hin)
          · rw [decide_eq_false hin]
            refine iteT ?_
            have hrow : ∀ t ∈ rowAt R now, t < nT L ps := fun t ht => Nat.lt_trans (up.lt va hnowL ht) htn
            have hcap := va.cap now hnowL
            refine ⟨_, rfl, p, d.dx, _, rfl, S4.ta.ob, fl4_no _ _ _ _ (by decide +kernel) (by decide +kernel) (by decide +kernel) (by decide +kernel), _, rfl, _, rfl, p, here, now, m, L, ps, d, R, rfl, S4.ta, hhere, hnowR, hrow, by omega, ?_, ?_, ?_⟩
            · -- same owner
              intro l H5 s5 hl hl5 hne
              refine ⟨_, rfl, _, rfl, iteF ?_⟩
              have S5 := S4.grow s5
              refine ⟨H, p, turn, m, L, ps, d, R, sn, qu, cm, l, here, now, done, queue, T, _, sameOf L ps here (rowAt R now), _, rfl, A0, S5, M4, va, up, htn, hnT, hl5, fun z => ?_, fun z => ?_, fun o ho => ?_, fun H6 queue' T' v8' S6 M6 hc => ⟨queue', T', _, _, _, rfl, S6, ?_⟩⟩
              · rw [z, S4.sn'] at hl; cases hl
              · rw [z, S4.qu'] at hl; cases hl
              · obtain ⟨h1, h2⟩ := List.mem_filter.mp ho
                exact ⟨hnowL, h1, hin, hwin, .inl (of_decide_eq_true h2).symm⟩
              · rw [hmap]
                refine M6.unit (.inr (.inl ?_))
                obtain ⟨o, ho⟩ := List.exists_mem_of_ne_nil _ hne
                obtain ⟨h1, h2⟩ := List.mem_filter.mp ho
                exact ⟨o, h1, hc o ho, of_decide_eq_true h2⟩
            · -- room
              intro H5 s5 hnil hroom
              refine ⟨_, rfl, _, rfl, iteT ?_⟩
              have S5 := S4.grow s5
              have hno : ∀ y ∈ rowAt R now, ownT L ps y ≠ ownT L ps here := fun y hy z => by
                have : y ∈ sameOf L ps here (rowAt R now) := List.mem_filter.mpr ⟨hy, decide_eq_true z⟩
                rw [hnil] at this
                cases this
              obtain ⟨T1, hT1, FL⟩ := M4.flip va up hnowL hwin hroom hno
              have hTl : T.length ≤ 10000 := by
                have dl := M4.done_le va up htn
                have e1 : T.length + 1 = (seenOf turn T).length := by unfold seenOf; simp
                rw [M4.eq, List.length_append, List.length_cons] at e1
                omega
              refine ⟨_, rfl, p, d.dx, _, rfl, S5.ta.ob, fl4_no _ _ _ _ (by decide +kernel) (by decide +kernel) (by decide +kernel) (by decide +kernel), _, rfl, _, rfl, _, rfl, _, rfl, p, cm, turn, here, now, m, L, ps, d, R, T, T1, _, rfl, S5.ta, hnowR, va.len, S5.cm', hTl, hm4, by omega, hT1, FL, fun R' T' H6 FL' A6 F6 => ?_⟩
              exact k R' H6 A6 FL'.valid (FL'.upto (R0 := R)) ((Fr.of S5.same).trans F6)
            · -- full
              intro l H5 s5 hl hl5 hnil hfull
              refine ⟨_, rfl, _, rfl, iteF ?_⟩
              have S5 := S4.grow s5
              have hno : ∀ y ∈ rowAt R now, ownT L ps y ≠ ownT L ps here := fun y hy z => by
                have : y ∈ sameOf L ps here (rowAt R now) := List.mem_filter.mpr ⟨hy, decide_eq_true z⟩
                rw [hnil] at this
                cases this
              refine ⟨H, p, turn, m, L, ps, d, R, sn, qu, cm, l, here, now, done, queue, T, _, rowAt R now, _, rfl, A0, S5, M4, va, up, htn, hnT, hl5, fun z => ?_, fun z => ?_, fun o ho => ?_, fun H6 queue' T' v8' S6 M6 hc => ⟨queue', T', _, _, _, rfl, S6, ?_⟩⟩
              · rw [z, S4.sn'] at hl; cases hl
              · rw [z, S4.qu'] at hl; cases hl
              · exact ⟨hnowL, ho, hin, hwin, .inr ⟨hfull, hno⟩⟩
              · rw [hmap]
                exact M6.unit (.inr (.inr ⟨hfull, hc⟩))
        · rintro σ H4 ⟨queue, T, v6, v7, v8, rfl, S4, M4⟩
          refine ⟨_, ?_, done ++ [here], queue, T, _, _, _, _, rfl, S4, M4.done_ fun u hu' hw => ?_, rfl⟩
          · have dl := M4.done_le va up htn
            rw [List.length_append, List.length_singleton]
            omega
          · obtain ⟨i, hi, rfl⟩ := mem_winL hw
            exact List.mem_map.mpr ⟨i, List.mem_range.mpr hi, rfl⟩
end
end Fair
end

section
set_option Elab.async false
set_option linter.all false
set_option maxRecDepth 100000
set_option maxHeartbeats 4000000
namespace Fair
open PySem PySem.Spec L2 FM
theorem suits_of {ps : PR} (ok : OkC ps) : Suits (cyc ps) ps := by
  refine ⟨ok.pos, fun k h => ?_, fun k h => ?_, fun k h => ?_⟩
  · obtain ⟨e1, e2⟩ := pc_of (List.getElem?_eq_getElem h)
    have := ok.ok _ (List.getElem_mem h)
    rw [e1]; omega
  · obtain ⟨e1, e2⟩ := pc_of (List.getElem?_eq_getElem h)
    have := ok.ok _ (List.getElem_mem h)
    rw [e1, e2]; omega
  · obtain ⟨e1, e2⟩ := pc_of (List.getElem?_eq_getElem h)
    rw [e2]
    exact Nat.div_mul_cancel (dvd_cyc (List.getElem_mem h))
theorem nT_le {ps : PR} (ok : OkC ps) : nT (cyc ps) ps ≤ 4000 := by
  have := turnsTo_len (L := cyc ps) (ps := ps) (n := ps.length) fun k hk => cnt_le ok.toOkPs ok.cy hk
  have h4 := ok.l4
  have : 720 * ps.length ≤ 720 * 4 := Nat.mul_le_mul_left _ h4
  unfold nT
  omega
theorem rowAt_rep (L u : Nat) : rowAt (List.replicate L []) u = [] := by
  unfold rowAt
  rw [List.getD_eq_getElem?_getD, List.getElem?_replicate]
  split <;> rfl
theorem valid0 {O : Nat → Nat} {Win : Nat → Nat → Prop} {m L : Nat} : Valid O Win m L (List.replicate L []) :=
  ⟨List.length_replicate, fun u hu t ht => (by rw [rowAt_rep] at ht; cases ht), fun u hu => (by rw [rowAt_rep]; exact List.nodup_nil), fun u hu => by rw [rowAt_rep]; exact Nat.zero_le _⟩
theorem upto0 {L : Nat} : Upto 0 (List.replicate L []) := fun t => by
  rw [ind_f (by omega)]
  unfold occ
  rw [ls_congr (g := fun _ => 0) fun a ha => by rw [List.eq_of_mem_replicate ha]; rfl, ls_zero]
theorem preSum_nat (f : Nat → Nat) : ∀ n, preSum (fun i => ((f i : Nat) : Int)) n = ((sm n f : Nat) : Int)
  | 0 => rfl
  | n + 1 => by
    show preSum (fun i => ((f i : Nat) : Int)) n + ((f n : Nat) : Int) = ((sm n f + f n : Nat) : Int)
    rw [preSum_nat f n, Int.natCast_add]
/-- a sorted copy of a list of naturals -/
theorem sorted_nat {ns : List Int} {l : List Nat} (p : ns.Perm (l.map fun t : Nat => (t : Int))) (s : ns.Pairwise (· ≤ ·)) (nd : l.Nodup) : ∃ l' : List Nat, ns = l'.map (fun t : Nat => (t : Int)) ∧ l'.Perm l ∧ l'.Pairwise (· < ·) := by
  have h0 : ∀ i ∈ ns, ((i.toNat : Nat) : Int) = i := fun i hi => by
    obtain ⟨t, _, rfl⟩ := List.mem_map.mp (p.mem_iff.mp hi)
    exact Int.toNat_of_nonneg (by omega)
  have e1 : (ns.map Int.toNat).map (fun t : Nat => (t : Int)) = ns := by
    rw [List.map_map]
    exact (List.map_congr_left (g := id) fun i hi => h0 i hi).trans (List.map_id _)
  have e2 : (ns.map Int.toNat).Perm l := by
    have := p.map Int.toNat
    rw [List.map_map] at this
    have e3 : l.map (Int.toNat ∘ fun t : Nat => (t : Int)) = l := (List.map_congr_left (g := id) fun i _ => Int.toNat_natCast i).trans (List.map_id _)
    rw [e3] at this
    exact this
  refine ⟨ns.map Int.toNat, e1.symm, e2, ?_⟩
  have nd2 : (ns.map Int.toNat).Nodup := e2.nodup_iff.mpr nd
  have s2 : (ns.map Int.toNat).Pairwise (· ≤ ·) := by
    rw [List.pairwise_map]
    exact s.imp fun {a b} h => by omega
  exact s2.imp₂ (fun a b h1 h2 => Nat.lt_of_le_of_ne h1 h2) nd2
/-- a schedule's rows -/
structure Base (n L : Nat) (B : List (List Nat)) : Prop where
  len : B.length = L
  row : ∀ r ∈ B, r.Pairwise (· < ·) ∧ (∀ k ∈ r, k < n) ∧ r.length ≤ 4
def Seg (ps : PR) (L : Nat) (B : List (List Nat)) : Prop := ∀ k q, k < ps.length → q < L / pg ps k → sm (pg ps k) (fun i => ind (k ∈ rowAt B (q * pg ps k + i))) = pc ps k
def SortOf (L : Nat) (ps : PR) (r b : List Nat) : Prop := b.Perm (r.map (ownT L ps)) ∧ b.Pairwise (· < ·)
theorem good_of {L m : Nat} {ps : PR} {R B : List (List Nat)} (s : Suits L ps) (v : Valid (ownT L ps) (winT L ps) m L R) (p : Upto (nT L ps) R) (hm : m ≤ 4) (h : Paired (SortOf L ps) R B) : Base ps.length L B ∧ Seg ps L B := by
  have hl := paired_len h
  have at_ : ∀ u, u < L → SortOf L ps (rowAt R u) (rowAt B u) := fun u hu => by
    obtain ⟨b, e1, e2⟩ := paired_at h (rowAt_get (R := R) (u := u) (by rw [v.len]; exact hu))
    have : rowAt B u = b := by
      unfold rowAt
      exact getD_of e1
    rw [this]
    exact e2
  refine ⟨⟨by rw [← hl]; exact v.len, fun r hr => ?_⟩, fun k q hk hq => ?_⟩
  · obtain ⟨u, hu, e⟩ := List.getElem_of_mem hr
    have hu' : u < L := by rw [← v.len, hl]; exact hu
    have er : rowAt B u = r := by
      unfold rowAt
      exact getD_of (by rw [List.getElem?_eq_getElem hu, e])
    obtain ⟨h1, h2⟩ := at_ u hu'
    rw [er] at h1 h2
    refine ⟨h2, fun k hk => ?_, ?_⟩
    · obtain ⟨t, ht, rfl⟩ := List.mem_map.mp (h1.mem_iff.mp hk)
      exact (turn_mem (p.lt v hu' ht)).1
    · rw [h1.length_eq, List.length_map]
      exact Nat.le_trans (v.cap u hu') hm
  · rw [← seg_count s v p hk hq]
    refine sm_congr fun i hi => ?_
    have hseg : q * pg ps k + pg ps k ≤ L := by
      have : (q + 1) * pg ps k ≤ L / pg ps k * pg ps k := Nat.mul_le_mul_right _ hq
      rw [s.dv k hk, Nat.succ_mul] at this
      exact this
    have := (at_ (q * pg ps k + i) (by omega)).1.mem_iff (a := k)
    by_cases hh : k ∈ rowAt B (q * pg ps k + i)
    · rw [ind_t hh, ind_t (this.mp hh)]
    · rw [ind_f hh, ind_f (fun z => hh (this.mpr z))]
/-- where the rows lie -/
def BaseAt (H : Hp) (a : Addr) (B : List (List Nat)) : Prop := ∃ xs, H a = some (.tup xs) ∧ Paired (fun x r => ∃ b, x = V.ref b ∧ H b = some (.tup (nV r))) xs B
end Fair
end

section
set_option Elab.async false
set_option linter.all false
set_option maxRecDepth 100000
set_option maxHeartbeats 4000000
namespace Fair
open PySem PySem.Spec L2 FM
def spFair (K : PySem.W.Frag) (C Pt : Addr) : Sp := fun vs H Q _ => ∃ (x : V) (ps : PR) (m : Nat), vs = [x, .int (m : Nat)] ∧ PairsAt K H x ps ∧ OkC ps ∧ 1 ≤ m ∧ m ≤ 4 ∧ GxR.TabG H Pt ∧
  (∀ H', Gr H H' → Q .non H') ∧ ∀ a B H', Gr H H' → BaseAt H' a B → Base ps.length (cyc ps) B → Seg ps (cyc ps) B → Q (.ref a) H'
section
variable {P : Program} {w : World} {K : PySem.W.Frag} {mg : Str → Option Value} {base : Heap} {f C : Addr} {fd : FuncData}
theorem scFair : FnScope ["pairs", "machines", "turns", "turn", "cycle", "row", "cost", "gap"] ["pairs", "machines"] (defScope sFair) := ⟨rfl, rfl, rfl, by decide +kernel, rfl, by decide +kernel, by decide +kernel⟩
/-- the rows, sorted -/
def rowsLc : Expr := match defBody sFair with
  | [_, _, _, _, _, .Return (some (.Call _ [e] _ _)) _] => e
  | _ => .Constant .none 0 ⟨0, 0, 0, 0⟩
def scRow : Scope := { kind := .function, names := [((".0" : Str), .local), (("row" : Str), .local), (("tuple" : Str), .globalImplicit), (("sorted" : Str), .globalImplicit), (("turns" : Str), .cell)], isGenerator := false, isCoroutine := false }
def tRows (C : Addr) : TE := fun σ H Q => ∃ (p : Addr) (m L : Nat) (ps : PR) (d : TD) (R : List (List Nat)) (v0 v1 v3 v4 v5 v6 v7 : Option V), σ = [v0, v1, some (.ref p), v3, v4, v5, v6, v7] ∧ TA C H p m L ps d R ∧ (∀ r ∈ R, ∀ t ∈ r, t < nT L ps) ∧ (∀ r ∈ R, (r.map (ownT L ps)).Nodup ∧ r.length ≤ 4) ∧ R.length ≤ 100 ∧
  ∀ D vs B H', Same H H' → H D = none → H' D = some (.lst vs) → Paired (fun x r => ∃ b, x = V.ref b ∧ H' b = some (.tup (nV r))) vs B → Paired (SortOf L ps) R B → Q (.ref D) H'
theorem peImp {X : Cx} {e : Expr} {t t' : TE} (h : PE X e t) (i : ∀ σ H Q, t' σ H Q → t σ H Q) : PE X e t' := ⟨fun pins s σ H Q I q => h.run pins s σ H Q I (i σ H Q q)⟩
theorem pe_rows {A : Around} {outer : List Env} {s : Shared} {H : Hp} {E : XK} {cdv : Value} (T : Tx mg) (Tc : TC K mg C) : PE (cxOf CX0 P w K mg base ["pairs", "machines", "turns", "turn", "cycle", "row", "cost", "gap"] "fair_schedule" (defScope sFair) f cdv A outer s H E).nox rowsLc (tRows C) := by
  refine peImp (t := _) (pe_lc (own := [("row", 5)]) (g := gName 5) (tt := tYes) rfl scFair.nd (pi_list (pe_fld (pv 2) rfl)) (blkOk_by (own := [("row", 5)]) (N := ["pairs", "machines", "turns", "turn", "cycle", "row", "cost", "gap"]) (sc := defScope sFair) (by decide +kernel))
    (fun _ _ _ _ _ => pg_name (i := 5) scFair.nd rfl (Or.inl rfl)) (fun _ _ _ _ _ => pts_nil)
    (fun _ _ _ _ _ => pe_callTy (show CallR _ (.type "tuple") (fun xs H Q => ∃ p ys, xs = [.ref p] ∧ ((SqL K H p ys ∧ ∀ l, H l = none → Q (.ref l) (upd H l (.tup ys))) ∨ (SqT K H p ys ∧ Q (.ref p) H))) from call_tuple_of) rfl T.tuple (by decide +kernel)
      (pa_cons (pe_callB (show CallR _ (.builtin "sorted") (rSortedI K) from cr_sortedI) rfl T.sorted (by decide +kernel)
        (pa_cons (pe_lc (own := [("turn", 3)]) (g := gName 3) (tt := tYes) rfl scFair.nd (show PI _ _ _ (iList K (tVar 5)) from pi_list (pv 5)) (blkOk_by (own := [("turn", 3)]) (N := ["pairs", "machines", "turns", "turn", "cycle", "row", "cost", "gap"]) (sc := scRow) (by decide +kernel))
          (fun _ _ _ _ _ => pg_name (i := 3) scFair.nd rfl (Or.inl rfl)) (fun _ _ _ _ _ => pts_nil)
          (fun _ _ _ _ _ => pe_ix (show IxR _ (rIxL K) from ix_list) (show PE _ _ (tFld K (tVar 2) "owner") from pe_fld (pv 2) rfl) (pv 3) (fun _ _ => rfl))) pa_nil)) pa_nil))) ?_
  rintro σ H Q ⟨p, m, L, ps, d, R, v0, v1, v3, v4, v5, v6, v7, rfl, TAh, hlt, hnd, hRl, k⟩
  refine ⟨_, rfl, p, C, d.dx, _, _, rfl, TAh.ob, Tc.cl, Tc.nR, fl4_ro _ _ _ _, d.ro, rfl, ⟨_, SqL.of TAh.ro⟩, fun D hD => ?_⟩
  refine lc_list (K := K) (a := d.ro) (xs := d.rs.map V.ref) (fun u H5 => ∃ vs B, H5 D = some (.lst vs) ∧ Paired (fun x r => ∃ b, x = V.ref b ∧ H5 b = some (.tup (nV r))) vs B ∧ Paired (SortOf L ps) (R.take u) B ∧ Same H H5)
    ⟨[], [], upd_same, .nil, .nil, fun b o e => by rw [upd_ne (ne_of_none e hD)]; exact e⟩ (fun u H5 _ ⟨_, _, _, _, _, s5⟩ => SqL.of (s5 _ _ TAh.ro)) ?_ ?_
  · rintro u x H5 hu ⟨vs, B, b1, b2, b3, s5⟩
    rw [List.getElem?_map] at hu
    cases hru : d.rs[u]? with
    | none => rw [hru] at hu; cases hu
    | some r =>
      rw [hru] at hu
      cases hu
      obtain ⟨rr, e1, e2⟩ := paired_at TAh.rr hru
      have hrm : rr ∈ R := List.mem_of_getElem? e1
      have A5 := TAh.same s5
      refine ⟨rfl, _, rfl, r, rfl, ⟨_, SqL.of (s5 _ _ e2)⟩, fun D2 hD2 => ?_⟩
      have old2 : ∀ H6, (∀ b, b ≠ D2 → H6 b = H5 b) → Same H5 H6 := fun H6 e b o hb => by rw [e b (ne_of_none hb hD2)]; exact hb
      refine lc_list (K := K) (a := r) (xs := nV rr) (fun j H6 => H6 D2 = some (.lst (nV ((rr.take j).map (ownT L ps)))) ∧ ∀ b, b ≠ D2 → H6 b = H5 b) ⟨upd_same, fun b hb => upd_ne hb⟩ (fun j H6 _ ⟨_, e⟩ => SqL.of (old2 H6 e _ _ (s5 _ _ e2))) ?_ ?_
      · rintro j x H6 hj ⟨q1, q2⟩
        obtain ⟨t, ht, rfl⟩ := nV_get hj
        have A6 := A5.same (old2 H6 q2)
        have ho := TA.own (hlt rr hrm t (List.mem_of_getElem? ht))
        refine ⟨rfl, _, rfl, p, C, d.dx, _, _, rfl, A6.ob, Tc.cl, Tc.nO, fl4_ow _ _ _ _, _, rfl, d.ow, _, _, _, rfl, rfl, SqL.of A6.ow, atI_nat ho, _, q1, ?_, ?_, fun b hb => ?_⟩
        · rw [nV_len, List.length_map]
          exact small1000 (by have := List.length_take_le' j rr; have := (hnd rr hrm).2; omega)
        · rw [upd_same, List.take_add_one, ht, List.map_append, ← nV_app] <;> rfl
        · rw [upd_ne hb]; exact q2 b hb
      · rintro H6 ⟨q1, q2⟩
        rw [nV_len, List.take_length, nV_ints] at q1
        refine ⟨D2, _, rfl, SqL.of q1, fun ns' p3 perm srt hp3 => ?_⟩
        obtain ⟨l', rfl, pl, sl⟩ := sorted_nat perm srt (hnd rr hrm).1
        rw [← nV_ints]
        refine ⟨p3, _, rfl, .inl ⟨SqL.of upd_same, fun l hl => ?_⟩⟩
        have s6 := old2 H6 q2
        have h6l : H6 l = none := by
          have : l ≠ p3 := fun z => by rw [z, upd_same] at hl; cases hl
          rw [upd_ne this] at hl; exact hl
        have nl3 : p3 ≠ l := ne_of_none (o := .lst (nV l')) upd_same hl
        have s7 : Same H5 (upd (upd H6 p3 (.lst (nV l'))) l (.tup (nV l'))) := fun b o e => by
          rw [upd_ne (ne_of_none (s6 b o e) h6l), upd_ne (ne_of_none (s6 b o e) hp3)]; exact s6 b o e
        have hDl : D ≠ l := ne_of_none (s6 _ _ b1) h6l
        refine ⟨vs, s7 _ _ b1, ?_, vs ++ [.ref l], B ++ [l'], upd_same, ?_, ?_, fun b o e => ?_⟩
        · rw [paired_len b2, ← paired_len b3]
          exact small1000 (by have := List.length_take_le' u R; omega)
        · have s8 : ∀ b o, H5 b = some o → b ≠ D → upd (upd (upd H6 p3 (.lst (nV l'))) l (.tup (nV l'))) D (.lst (vs ++ [.ref l])) b = some o := fun b o e hb => by rw [upd_ne hb]; exact s7 b o e
          refine paired_append (paired_map (fun y r' ⟨b, q3, q4⟩ => ⟨b, q3, s8 b _ q4 (ne_of q4 b1 (by intro z; cases z))⟩) b2) ⟨l, rfl, by rw [upd_ne hDl.symm, upd_same]⟩
        · rw [List.take_add_one, e1]
          exact paired_append b3 ⟨pl, sl⟩
        · rw [upd_ne (ne_of_none e hD)]
          exact s7 b o (s5 b o e)
  · rintro H5 ⟨vs, B, b1, b2, b3, s5⟩
    rw [List.length_map, paired_len TAh.rr, List.take_length] at b3
    exact k D vs B H5 s5 hD b1 b2 b3
end
end Fair
end

section
set_option Elab.async false
set_option linter.all false
set_option maxRecDepth 100000
set_option maxHeartbeats 4000000
namespace Fair
open PySem PySem.Spec L2 FM
section
variable {P : Program} {w : World} {K : PySem.W.Frag} {mg : Str → Option Value} {base : Heap} {f C : Addr} {fd : FuncData}
theorem mem_of_occ {R : List (List Nat)} {t : Nat} {r : List Nat} (h : r ∈ R) (ht : t ∈ r) : ∃ u, u < R.length ∧ t ∈ rowAt R u := by
  obtain ⟨u, hu, e⟩ := List.getElem_of_mem h
  refine ⟨u, hu, ?_⟩
  have : rowAt R u = r := by
    unfold rowAt
    exact getD_of (by rw [List.getElem?_eq_getElem hu, e])
  rw [this]; exact ht
theorem mem_rowAt {R : List (List Nat)} {r : List Nat} (h : r ∈ R) : ∃ u, u < R.length ∧ rowAt R u = r := by
  obtain ⟨u, hu, e⟩ := List.getElem_of_mem h
  refine ⟨u, hu, ?_⟩
  unfold rowAt
  exact getD_of (by rw [List.getElem?_eq_getElem hu, e])
theorem ok_fair {c Pt fN fC fI fP : Addr} {fdN fdC fdI fdP : FuncData} (F : FnP K "fair_schedule" "fair_schedule" sFair f fd) (hcv : fd.code = .ref c) (TB : GxR.TabB base mg c Pt) (T : Tx mg) (Tc : TC K mg C) (M : Mk K C fI) (gT : mg "Turns" = some (.ref C))
    (GN : FnOk P w K mg base CX0 4 fN fdN ["pairs", "machines"] (spNeedFair K)) (gN : mg "need_fair" = some (.ref fN)) (kN : PySem.W.keepIn K (.ref fN) = true) (bN : Binds K fdN ["pairs", "machines"] [])
    (GC : FnOk P w K mg base CX0 1 fC fdC ["pairs"] (spCycle K)) (gC : mg "cycle_of" = some (.ref fC)) (kC : PySem.W.keepIn K (.ref fC) = true) (bC : Binds K fdC ["pairs"] [])
    (GI : FnOk P w K mg base CX0 1 fI fdI ["self", "pairs", "machines", "cycle"] (spInit K C)) (bI : Binds K fdI ["self", "pairs", "machines", "cycle"] [])
    (GP : FnOk P w K mg base CX0 2 fP fdP ["self", "turn"] (spPlace C)) (mP : Meth K C "place" fP) (bP : Binds K fdP ["self", "turn"] []) :
    FnOk P w K mg base CX0 5 f fd ["pairs", "machines"] (spFair K C Pt) := by
  refine okC F hcv scFair (fun vs H Q E h => ?_) (fun A outer s H vs Q E hr h => ?_)
  · obtain ⟨x, ps, m, rfl, _⟩ := h
    rfl
  · obtain ⟨x, ps, m, rfl, hp, ok, h1, h4, tb, k1, k2⟩ := h
    have hr1 : Room 1 _ := hr.mono (by decide)
    have hr2 : Room 2 _ := hr.mono (by decide)
    refine ⟨_, pss_cons (ps_expr (pe_call GN hr rfl gN kN bN .nil pass0 (pa_cons (pv 0) (pa_cons (pv 1) pa_nil))))
      (pss_cons (ps_set (i := 4) scFair.nd rfl (.inr rfl) (pe_call GC hr1 rfl gC kC bC .nil pass0 (pa_cons (pv 0) pa_nil)))
      (pss_cons (ps_if (pt_cmpR op_gt (Gx.pe_sumG (k := 3) (own := [("cost", 6), ("gap", 7)]) (g := gTup K 2 (gCons (gName 6) (gCons (gName 7) gNil))) hr rfl rfl T.sum TB rfl
          ⟨blkOk_by (own := [("cost", 6), ("gap", 7)]) (N := ["pairs", "machines", "turns", "turn", "cycle", "row", "cost", "gap"]) (sc := defScope sFair) (by decide +kernel), rfl, by decide +kernel, rfl⟩ scFair.nd (pi_tup (pv 0))
          (fun _ _ _ _ _ _ _ => pg_tup (by rfl) (pgs_cons (pg_name (i := 6) scFair.nd rfl (Or.inl rfl)) (pgs_cons (pg_name (i := 7) scFair.nd rfl (Or.inl rfl)) pgs_nil)))
          (fun _ _ _ _ _ _ _ hr' => pe_op op_mul (pe_op op_fdivN (pv 4) (pv 7)) (pv 6))) (pe_op op_mul (pv 1) (pv 4)) (nomark _)) (pss_one (ps_ret pe_non)) pss_nil)
      (pss_cons (ps_set (i := 2) scFair.nd rfl (.inr rfl) (pe_make M GI hr2 rfl gT bI .nil pass0 (pa_cons (pv 0) (pa_cons (pv 1) (pa_cons (pv 4) pa_nil)))))
      (pss_cons (ps_for PassesOwn.never rfl (pi_range1 rfl T.range (pa_cons (pe_callB call_len_seq rfl T.len PySem.boot_len (pa_cons (pe_fld (pv 2) rfl) pa_nil)) pa_nil)) (pg_name (i := 3) scFair.nd rfl (.inl rfl))
        (pss_one (ps_expr (pe_meth (pv 2) Tc.cl mP GP hr2 bP .nil pass0 (pa_cons (pv 3) pa_nil)))))
      (pss_one (ps_ret (pe_callTy call_tuple_of rfl T.tuple (by decide +kernel) (pa_cons (show PE _ rowsLc (tRows C) from pe_rows T Tc) pa_nil)))))))), ?_⟩
    refine ⟨_, rfl, _, rfl, x, ps, m, rfl, hp, ok.toOkPs, h1, h4, fun H1 s1 => ?_⟩
    have g1 := Gr.of s1
    refine ⟨_, rfl, x, ps, rfl, g1.pairs hp, ok, ?_⟩
    have su := suits_of ok
    have hcy := ok.cy
    cases hp with
    | @mk a xs _ hq ht hpp =>
    have hl := paired_len hpp
    -- the sum
    refine ⟨_, rfl, a, rfl, ⟨_, g1.seqT hq⟩, g1.tb _ tb, fun H2 tb2 => ?_⟩
    have g2 : Gr H H2 := g1.trans (Gr.tab (g1.tb _ tb) tb2)
    refine ⟨xs.length, fun i => ((cntOf (cyc ps) ps i : Nat) : Int), fun _ H3 => H3 = H2, rfl, turns_tup (fun _ H3 e => by rw [e]; exact g2.seqT hq) (fun i y H3 hi e => ?_), fun i H3 _ e => ?_⟩
    · subst e
      obtain ⟨pr, hy, py⟩ := paired_at hpp hi
      have hil : i < ps.length := (List.getElem?_eq_some_iff.mp hy).1
      obtain ⟨c1, c2⟩ := pc_of hy
      have okp := ok.ok _ (List.mem_of_getElem? hy)
      cases py with
      | @mk b c g hb hbt =>
        simp only at okp c1 c2
        refine ⟨b, _, rfl, g2.seqT hb, rfl, _, _, rfl, _, _, rfl, rfl, rfl, ?_⟩
        refine ⟨_, rfl, _, rfl, _, _, rfl, rfl, ⟨by omega, by rw [Int.natAbs_natCast]; omega⟩, _, rfl, _, _, rfl, rfl, .inl ?_, ?_, rfl⟩
        · rw [fdiv_nat]
          have : cyc ps / g ≤ 60 := Nat.le_trans (Nat.div_le_self _ _) hcy
          generalize cyc ps / g = q at *
          constructor <;> omega
        · show V.int (((cyc ps : Nat) : Int).fdiv (g : Int) * (c : Int)) = V.int ((cntOf (cyc ps) ps i : Nat) : Int)
          rw [fdiv_nat, ← Int.natCast_mul]
          unfold cntOf
          rw [c1, c2]
    · subst e
      rw [preSum_nat, hl]
      refine ⟨_, rfl, _, rfl, _, _, rfl, rfl, .inl ⟨by omega, by omega⟩, _, _, rfl, rfl, _, rfl, ?_⟩
      show if decide (((sm ps.length (cntOf (cyc ps) ps) : Nat) : Int) > (m : Int) * ((cyc ps : Nat) : Int)) = true then _ else _
      by_cases hgt : sm ps.length (cntOf (cyc ps) ps) > m * cyc ps
      · rw [decide_eq_true (by rw [← Int.natCast_mul]; omega)]
        exact iteT (k1 H3 g2)
      · rw [decide_eq_false (by rw [← Int.natCast_mul]; omega)]
        refine iteF ?_
        have fl := fluid su (Nat.le_of_not_lt hgt)
        -- turns = Turns(pairs, machines, cycle)
        refine ⟨_, rfl, _, rfl, _, rfl, fun p dx hp hdx hne => ?_⟩
        have s3 : Same H3 (upd (upd H3 dx (.own p)) p (.ins C dx [])) := fun b o e => by rw [upd_ne (ne_of_none e hp), upd_ne (ne_of_none e hdx)]; exact e
        refine ⟨p, dx, _, m, cyc ps, ps, rfl, upd_same, (g2.trans (Gr.of s3)).pairs (.mk hq ht hpp), ok.toOkPs, hcy, fun d H4 TA4 fr4 hrs => ⟨rfl, ?_⟩⟩
        have s4 : Same H3 H4 := fun b o e => fr4 b o (s3 b o e) (ne_of_none e hp)
        have hrs3 : ∀ b ∈ d.rs, H3 b = none := fun b hb => s3.free (hrs b hb)
        -- for turn in range(len(turns.owner))
        have hown : (ownL (turnsTo (cyc ps) ps ps.length)).length = nT (cyc ps) ps := by unfold ownL nT; rw [List.length_map]
        have hnT := nT_le ok
        refine ⟨_, rfl, p, C, d.dx, _, _, rfl, TA4.ob, Tc.cl, Tc.nO, fl4_ow _ _ _ _, d.ow, _, rfl, .inl (SqL.of TA4.ow), _, rfl, by omega, by omega, ?_⟩
        rw [hown, Int.toNat_natCast]
        refine for_range (lo := 0) (n := nT (cyc ps) ps) (fun t σ H5 => ∃ R v3, σ = [some (.ref a), some (.int (m : Nat)), some (.ref p), v3, some (.int (cyc ps : Nat)), none, none, none] ∧ TA C H5 p m (cyc ps) ps d R ∧ Valid (ownT (cyc ps) ps) (winT (cyc ps) ps) m (cyc ps) R ∧ Upto t R ∧ Same H3 H5)
          ⟨_, _, rfl, TA4, valid0, upto0, s4⟩ ?_ ?_
        · rintro t σ H5 ht' ⟨R, v3, rfl, A5, va, up, s5⟩
          have e0 : (0 : Int) + (t : Int) = t := Int.zero_add _
          rw [e0]
          refine ⟨_, rfl, p, d.dx, _, rfl, A5.ob, fl4_no _ _ _ _ (by decide +kernel) (by decide +kernel) (by decide +kernel) (by decide +kernel), _, rfl, p, t, m, cyc ps, ps, d, R, rfl, A5, ht', h4, hnT, su, va, up, fl, fun R' H6 A6 va6 up6 f6 => ?_⟩
          exact ⟨R', _, rfl, A6, va6, up6, fun b o e => f6.kp b o (s5 b o e) (fun hb => by rw [hrs3 b hb] at e; cases e)⟩
        · rintro σ H5 ⟨R, v3, rfl, A5, va, up, s5⟩
          refine ⟨p, m, cyc ps, ps, d, R, _, _, _, _, _, _, _, rfl, A5, fun r hr' t ht' => ?_, fun r hr' => ?_, by rw [va.len]; omega, fun D vs B H6 s6 hD hD6 pB pS => ?_⟩
          · obtain ⟨u, hu, e⟩ := mem_rowAt hr'
            rw [va.len] at hu
            exact up.lt va hu (by rw [e]; exact ht')
          · obtain ⟨u, hu, e⟩ := mem_rowAt hr'
            rw [va.len] at hu
            have c1 := va.own u hu
            have c2 := va.cap u hu
            rw [e] at c1 c2
            exact ⟨c1, by omega⟩
          · obtain ⟨gb, gs⟩ := good_of su va up h4 pS
            refine ⟨D, vs, rfl, .inl ⟨SqL.of hD6, fun l hl' => ?_⟩⟩
            have s7 : Same H6 (upd H6 l (.tup vs)) := fun b o e => by rw [upd_ne (ne_of_none e hl')]; exact e
            exact k2 l B _ (g2.trans (Gr.of ((s5.trans s6).trans s7))) ⟨vs, upd_same, paired_map (fun y r ⟨b, q1, q2⟩ => ⟨b, q1, s7 _ _ q2⟩) pB⟩ gb gs
end
end Fair
end

section
set_option Elab.async false
set_option linter.all false
set_option maxRecDepth 100000
set_option maxHeartbeats 4000000
namespace Fair
open PySem PySem.Spec L2 FM
/-! ### what a fair schedule is -/
def cntRow (k : Nat) : Row → Nat
  | some es => es.count (V.int (k : Nat))
  | none => 0
def cnt (rows : List Row) (j k : Nat) : Nat := ((rows.take j).map (cntRow k)).sum
def rowLen : Row → Nat
  | some es => es.length
  | none => 0
def LagP (ps : PR) (rows : List Row) (now k : Nat) : Prop := -((pg ps k : Nat) : Int) < ((now : Int) + 1) * ((pc ps k : Nat) : Int) - ((cnt rows (now + 1) k : Nat) : Int) * ((pg ps k : Nat) : Int) ∧ ((now : Int) + 1) * ((pc ps k : Nat) : Int) - ((cnt rows (now + 1) k : Nat) : Int) * ((pg ps k : Nat) : Int) < ((pg ps k : Nat) : Int)
def RowP (ps : PR) (m : Nat) (r : Row) : Prop := RisP ps.length r ∧ rowLen r ≤ m
def FairP (ps : PR) (m : Nat) (v : Val) : Prop := ∃ rows, v = some rows ∧ rows.length = cyc ps ∧ (∀ r ∈ rows, RowP ps m r) ∧ ∀ now, now < cyc ps → ∀ k, k < ps.length → LagP ps rows now k
theorem cnt_succ {rows : List Row} {j k : Nat} {r : Row} (h : rows[j]? = some r) : cnt rows (j + 1) k = cnt rows j k + cntRow k r := by
  unfold cnt
  rw [List.take_add_one, h, List.map_append, List.sum_append]
  simp
theorem cntR_le {rows : List Row} {k : Nat} (h : ∀ r ∈ rows, rowLen r ≤ 64) : ∀ j, cnt rows j k ≤ 64 * j
  | 0 => by simp [cnt]
  | j + 1 => by
    have ih := cntR_le (k := k) h j
    cases e : rows[j]? with
    | none =>
      have e2 : cnt rows (j + 1) k = cnt rows j k := by
        unfold cnt
        rw [List.take_add_one, e] <;> simp
      omega
    | some r =>
      rw [cnt_succ e]
      have h1 := h r (List.mem_of_getElem? e)
      have h2 : cntRow k r ≤ rowLen r := by
        cases r with
        | none => exact Nat.le_refl _
        | some es => exact List.count_le_length
      omega
def dn (n : Nat) (g : Nat → Nat) : List V := (List.range n).map fun k => V.int (g k : Nat)
theorem dn_len (n : Nat) (g : Nat → Nat) : (dn n g).length = n := by unfold dn; rw [List.length_map, List.length_range]
theorem dn_get {n k : Nat} {g : Nat → Nat} (h : k < n) : (dn n g)[k]? = some (.int (g k : Nat)) := by
  unfold dn
  rw [List.getElem?_map, List.getElem?_range h] <;> rfl
theorem dn_congr {n : Nat} {g g' : Nat → Nat} (h : ∀ k, k < n → g k = g' k) : dn n g = dn n g' := by
  unfold dn
  exact List.map_congr_left fun k hk => by rw [h k (List.mem_range.mp hk)]
theorem dn_set {n k : Nat} {g : Nat → Nat} {v : Nat} (h : k < n) : (dn n g).set k (.int (v : Nat)) = dn n (fun j => if j = k then v else g j) := by
  apply List.ext_getElem?
  intro i
  rw [List.getElem?_set, dn_len]
  by_cases hi : i < n
  · by_cases e : k = i
    · subst e
      rw [if_pos rfl, if_pos h, dn_get (g := fun j => if j = k then v else g j) h, if_pos rfl]
    · rw [if_neg e, dn_get (g := g) hi, dn_get (g := fun j => if j = k then v else g j) hi, if_neg (Ne.symm e)]
  · rw [List.getElem?_eq_none (by rw [dn_len]; omega), List.getElem?_eq_none (by rw [dn_len]; omega)]
    by_cases e : k = i
    · omega
    · rw [if_neg e]
theorem nV_count (l : List Nat) (k : Nat) : (nV l).count (V.int (k : Nat)) = l.count k := by
  induction l with
  | nil => rfl
  | cons a l ih =>
    show (V.int (a : Nat) :: nV l).count (V.int (k : Nat)) = _
    rw [List.count_cons, List.count_cons, ih]
    by_cases h : a = k
    · subst h; simp
    · have h1 : (V.int (a : Nat) == V.int (k : Nat)) = false := by
        rw [beq_eq_false_iff_ne]
        intro z
        have := V.int.inj z
        omega
      have h2 : (a == k) = false := by rw [beq_eq_false_iff_ne]; exact h
      rw [h1, h2]
theorem ixN_nat {n j : Nat} (h : j < n) : ixN n (j : Int) = some j := by
  unfold ixN
  rw [if_pos (by omega)]
  simp [h]
theorem pair_lt {ps : PR} (ok : OkPs ps) {k : Nat} (h : k < ps.length) : 1 ≤ pc ps k ∧ pc ps k ≤ pg ps k ∧ pg ps k ≤ 12 := by
  obtain ⟨e1, e2⟩ := pc_of (List.getElem?_eq_getElem h)
  rw [e1, e2]
  exact ok.ok _ (List.getElem_mem h)
end Fair
end

section
set_option Elab.async false
set_option linter.all false
set_option maxRecDepth 100000
set_option maxHeartbeats 4000000
namespace Fair
open PySem PySem.Spec L2 FM
def spShows (K : PySem.W.Frag) (P1 P3 : Addr) : Sp := fun vs H Q _ => ∃ (x v : V) (ps : PR) (m : Nat) (rv : Val), vs = [x, .int (m : Nat), v] ∧ PairsAt K H x ps ∧ OkC ps ∧ 1 ≤ m ∧ m ≤ 4 ∧ ValAt K H v rv ∧ GxR.TabG H P1 ∧ GxR.TabG H P3 ∧
  ∀ b H', (b = true ↔ FairP ps m rv) → Gr H H' → Q (.bl b) H'
def rLenK (K : PySem.W.Frag) : List V → Hp → VK → Prop := fun xs H Q => ∃ p ys, xs = [.ref p] ∧ (SqL K H p ys ∨ SqT K H p ys) ∧ Q (.int ys.length) H
section
variable {P : Program} {w : World} {K : PySem.W.Frag} {mg : Str → Option Value} {base : Heap} {f C : Addr} {fd : FuncData}
theorem scShows : FnScope ["pairs", "machines", "value", "cycle", "done", "now", "row", "k", "cost", "gap", "pair"] ["pairs", "machines", "value"] (defScope sShows) := ⟨rfl, rfl, rfl, by decide +kernel, rfl, by decide +kernel, by decide +kernel⟩
theorem ok_shows {c P1 P3 fN fC fR : Addr} {fdN fdC fdR : FuncData} (F : FnP K "shows_fair" "shows_fair" sShows f fd) (hcv : fd.code = .ref c) (TB : GxR.TabB base mg c P3) (T : Tx mg)
    (GN : FnOk P w K mg base CX0 4 fN fdN ["pairs", "machines"] (spNeedFair K)) (gN : mg "need_fair" = some (.ref fN)) (kN : PySem.W.keepIn K (.ref fN) = true) (bN : Binds K fdN ["pairs", "machines"] [])
    (GC : FnOk P w K mg base CX0 1 fC fdC ["pairs"] (spCycle K)) (gC : mg "cycle_of" = some (.ref fC)) (kC : PySem.W.keepIn K (.ref fC) = true) (bC : Binds K fdC ["pairs"] [])
    (GR : FnOk P w K mg base CX0 3 fR fdR ["value", "many"] (spRising K P1)) (gR : mg "is_rising" = some (.ref fR)) (kR : PySem.W.keepIn K (.ref fR) = true) (bR : Binds K fdR ["value", "many"] []) :
    FnOk P w K mg base CX0 5 f fd ["pairs", "machines", "value"] (spShows K P1 P3) := by
  classical
  refine okC F hcv scShows (fun vs H Q E h => ?_) (fun A outer s H vs Q E hr h => ?_)
  · obtain ⟨x, v, ps, m, rv, rfl, _⟩ := h
    rfl
  · obtain ⟨x, v, ps, m, rv, rfl, hp, ok, h1, h4, hv, tb1, tb3, k⟩ := h
    have hr1 : Room 1 _ := hr.mono (by decide)
    refine ⟨_, pss_cons (ps_expr (pe_call GN hr rfl gN kN bN .nil pass0 (pa_cons (pv 0) (pa_cons (pv 1) pa_nil))))
      (pss_cons (ps_set (i := 3) scShows.nd rfl (.inl rfl) (pe_call GC hr1 rfl gC kC bC .nil pass0 (pa_cons (pv 0) pa_nil)))
      (pss_cons (ps_if (PW.pt (pw_or (pt_not (pt_val (pe_callB call_isi rfl T.isi PyProof.Rows.boot_isinstance (pa_cons (pv 2) (pa_cons (pe_bltn (v := .ty "tuple") rfl T.tuple (by decide +kernel) rfl) pa_nil)))))
          (pw_or1 (pt_cmpR op_ne (pe_callB call_len_seq rfl T.len PySem.boot_len (pa_cons (pv 2) pa_nil)) (pv 3) (nomark _))))) (pss_one (ps_ret pe_bl)) pss_nil)
      (pss_cons (ps_if (pt_not (pt_val (Gx.pe_allG (k := 3) (own := [("row", 6)]) (g := gName 6) hr rfl rfl T.all TB rfl
          ⟨blkOk_by (own := [("row", 6)]) (N := ["pairs", "machines", "value", "cycle", "done", "now", "row", "k", "cost", "gap", "pair"]) (sc := defScope sShows) (by decide +kernel), rfl, by decide +kernel, rfl⟩ scShows.nd (pi_tup (pv 2)) (fun _ _ _ _ _ _ _ => pg_name (i := 6) scShows.nd rfl (Or.inl rfl))
          (fun _ _ _ _ _ _ _ hr' => pe_and (pe_call GR hr' rfl gR kR bR .nil pass0 (pa_cons (pv 6) (pa_cons (pe_callB (show CallR _ (.builtin "len") (rLenK K) from call_len_seq) rfl T.len PySem.boot_len (pa_cons (pv 0) pa_nil)) pa_nil)))
            (pe_one (pe_cmpR op_le (pe_callB (show CallR _ (.builtin "len") (rLenK K) from call_len_seq) rfl T.len PySem.boot_len (pa_cons (pv 6) pa_nil)) (pv 1) (nomark _))))))) (pss_one (ps_ret pe_bl)) pss_nil)
      (pss_cons (ps_setLc (i := 4) (own := [("pair", 10)]) (g := gName 10) rfl scShows.nd rfl rfl (sw_true rfl rfl rfl (by decide +kernel)) (pi_tup (pv 0)) (blkOk_by (own := [("pair", 10)]) (N := ["pairs", "machines", "value", "cycle", "done", "now", "row", "k", "cost", "gap", "pair"]) (sc := defScope sShows) (by decide +kernel))
          (fun _ _ _ _ _ => pg_name (i := 10) scShows.nd rfl (Or.inl rfl)) (fun _ _ _ _ _ => pts_nil) (fun _ _ _ _ _ => pe_int))
      (pss_cons (ps_for PassesOwn.never rfl (Lx.pi_enumT rfl T.enum (pa_cons (pv 2) pa_nil)) (pg_tup (by rfl) (pgs_cons (pg_name (i := 5) scShows.nd rfl (.inl rfl)) (pgs_cons (pg_name (i := 6) scShows.nd rfl (.inl rfl)) pgs_nil)))
          (pss_cons (ps_for PassesOwn.never rfl (pi_tup (pv 6)) (pg_name (i := 7) scShows.nd rfl (.inl rfl))
            (pss_one (ps_asg (pe_op op_add (pe_ix ix_list (pv 4) (pv 7) (fun _ _ => rfl)) pe_int) (pg_sub (pv 4) (pv 7) set_list (fun _ => rfl)))))
          (pss_one (ps_for PassesOwn.never rfl (Lx.pi_enumT rfl T.enum (pa_cons (pv 0) pa_nil)) (pg_tup (by rfl) (pgs_cons (pg_name (i := 7) scShows.nd rfl (.inl rfl)) (pgs_cons (pg_tup (by rfl) (pgs_cons (pg_name (i := 8) scShows.nd rfl (.inl rfl)) (pgs_cons (pg_name (i := 9) scShows.nd rfl (.inl rfl)) pgs_nil))) pgs_nil)))
            (pss_one (ps_if (pt_not (pt_chain op_lt op_lt (pe_un un_neg (pv 9)) (pe_op op_sub (pe_op op_mul (pe_op op_add (pv 5) pe_int) (pv 8)) (pe_op op_mul (pe_ix ix_list (pv 4) (pv 7) (fun _ _ => rfl)) (pv 9))) (pv 9))) (pss_one (ps_ret pe_bl)) pss_nil))))))
      (pss_one (ps_ret pe_bl))))))), ?_⟩
    refine ⟨_, rfl, _, rfl, x, ps, m, rfl, hp, ok.toOkPs, h1, h4, fun H1 s1 => ?_⟩
    have g1 := Gr.of s1
    refine ⟨_, rfl, x, ps, rfl, g1.pairs hp, ok, ?_⟩
    have hcy := ok.cy
    cases hp with
    | @mk a xs _ hq ht hpp =>
    have hl := paired_len hpp
    cases hv with
    | no hno =>
      obtain ⟨t, ty, e⟩ := g1.noTup hno
      refine ⟨_, rfl, _, _, _, _, false, rfl, .ty _, ty, kit_ty e, false, rfl, iteT ?_⟩
      exact k false H1 ⟨fun z => (by cases z), fun ⟨rows, z, _⟩ => (by cases z)⟩ g1
    | @tup va vs rows hvq hvt hrows hvl =>
      have hvlen := paired_len hrows
      refine ⟨_, rfl, _, _, _, _, true, rfl, .ty _, g1.ty hvt, kit_ty (by decide +kernel), true, rfl, iteF ?_⟩
      refine ⟨_, rfl, va, _, rfl, .inr (g1.seqT hvq), _, rfl, rfl, _, rfl, ?_⟩
      show if (!decide (V.int (vs.length : Nat) = V.int (cyc ps : Nat))) = true then _ else _
      by_cases hL : vs.length = cyc ps
      case neg =>
        rw [decide_eq_false (fun z => hL (by have := V.int.inj z; omega))]
        refine iteT (k false H1 ⟨fun z => (by cases z), fun ⟨rows', z, e2, _⟩ => ?_⟩ g1)
        cases z
        exact absurd (hvlen.trans e2) hL
      rw [decide_eq_true (by rw [hL])]
      refine iteF ?_
      -- all rows are rising
      refine ⟨_, rfl, va, rfl, ⟨_, g1.seqT hvq⟩, g1.tb _ tb3, fun H2 tb2 => ?_⟩
      have g2 : Gr H H2 := g1.trans (Gr.tab (g1.tb _ tb3) tb2)
      refine ⟨vs.length, fun i => decide (RowP ps m (rows.getD i none)), fun _ H3 => Gr H2 H3, Gr.refl H2, turns_tup (fun _ H3 e => (g2.trans e).seqT hvq) (fun i y H3 hi e => ?_), fun i H3 _ e => ?_⟩
      · obtain ⟨r, hr', py⟩ := paired_at hrows hi
        have g3 := g2.trans e
        have er : rows.getD i none = r := getD_of hr'
        refine ⟨rfl, _, rfl, _, rfl, a, xs, rfl, .inr (g3.seqT hq), y, ps.length, r, by rw [hl] <;> rfl, g3.row py, g3.tb _ tb1, fun b H4 hb g4 => ⟨b, rfl, ?_⟩⟩
        cases b with
        | false =>
          refine iteF ⟨?_, e.trans g4⟩
          show V.bl false = V.bl (decide (RowP ps m (rows.getD i none)))
          rw [er, decide_eq_false (fun z => by have := hb.mpr z.1; cases this)]
        | true =>
          obtain ⟨ks, hks, _⟩ := hb.mp rfl
          subst hks
          cases py with
          | @tup rb es rq rt rat rl =>
            refine iteT ⟨_, rfl, rb, _, rfl, .inr ((g3.trans g4).seqT rq), _, rfl, _, _, rfl, rfl, ?_, e.trans g4⟩
            show V.bl (decide (((ks.map fun k => V.int (k : Nat)).length : Int) ≤ (m : Int))) = V.bl (decide (RowP ps m (rows.getD i none)))
            rw [er]
            congr 1
            refine decide_eq_decide.mpr ⟨fun z => ⟨hb.mp rfl, ?_⟩, fun z => ?_⟩
            · show (ks.map fun k => V.int (k : Nat)).length ≤ m
              omega
            · have z2 : (ks.map fun k => V.int (k : Nat)).length ≤ m := z.2
              omega
      · have g3 := g2.trans e
        refine ⟨_, rfl, ?_⟩
        cases hb : (List.range vs.length).all fun i => decide (RowP ps m (rows.getD i none)) with
        | false =>
          refine iteT (k false H3 ⟨fun z => (by cases z), fun ⟨rows', z, _, hh, _⟩ => ?_⟩ g3)
          cases z
          rw [← Bool.not_eq_true] at hb
          refine absurd (List.all_eq_true.mpr fun i hi => ?_) hb
          have hil := List.mem_range.mp hi
          rw [hvlen] at hil
          rw [decide_eq_true_eq, getD_of (List.getElem?_eq_getElem hil)]
          exact hh _ (List.getElem_mem hil)
        | true =>
          refine iteF ?_
          have hall : ∀ r ∈ rows, RowP ps m r := fun r hr' => by
            obtain ⟨i, hi, ei⟩ := List.getElem_of_mem hr'
            have := List.all_eq_true.mp hb i (List.mem_range.mpr (by rw [hvlen]; exact hi))
            rw [decide_eq_true_eq, getD_of (List.getElem?_eq_getElem hi), ei] at this
            exact this
          have hr64 : ∀ r ∈ rows, rowLen r ≤ 64 := fun r hr' => Nat.le_trans (hall r hr').2 (by omega)
          -- done = [0 for pair in pairs]
          refine ⟨_, rfl, a, rfl, ⟨_, g3.seqT hq⟩, fun D hD => ?_⟩
          have old : ∀ H5, (∀ b, b ≠ D → H5 b = H3 b) → Same H3 H5 := fun H5 e b o hb => by rw [e b (ne_of_none hb hD)]; exact hb
          refine lc_tup (K := K) (a := a) (xs := xs) (fun i H5 => H5 D = some (.lst (dn i fun _ => 0)) ∧ ∀ b, b ≠ D → H5 b = H3 b) ⟨upd_same, fun b hb => upd_ne hb⟩ (fun i H5 _ ⟨_, e⟩ => (g3.trans (Gr.of (old H5 e))).seqT hq) ?_ ?_
          · rintro i y H5 hi ⟨q1, q2⟩
            refine ⟨rfl, _, q1, ?_, ?_, fun b hb => ?_⟩
            · rw [dn_len]
              have := (List.getElem?_eq_some_iff.mp hi).1
              have := ok.l4
              exact small1000 (by omega)
            · rw [upd_same]
              unfold dn
              rw [List.range_succ, List.map_append] <;> rfl
            · rw [upd_ne hb]; exact q2 b hb
          · rintro H5 ⟨q1, q2⟩
            have s5 := old H5 q2
            have g5 := g3.trans (Gr.of s5)
            rw [hl] at q1
            -- for now, row in enumerate(value)
            refine ⟨_, rfl, va, vs, rfl, g5.seqT hvq, Lx.for_enumT (fun i σ H6 => ∃ v5 v6 v7 v8 v9 v10, σ = [some (.ref a), some (.int (m : Nat)), some (.ref va), some (.int (cyc ps : Nat)), some (.ref D), v5, v6, v7, v8, v9, v10] ∧ H6 D = some (.lst (dn ps.length (cnt rows i))) ∧ (∀ b o, H3 b = some o → H6 b = some o) ∧
              ∀ now, now < i → ∀ k, k < ps.length → LagP ps rows now k) ⟨_, _, _, _, _, _, rfl, by rw [q1]; exact congrArg (fun l => some (HO.lst l)) (dn_congr fun k _ => by simp [cnt]), s5, fun now h => absurd h (by omega)⟩ (fun i σ H6 _ ⟨_, _, _, _, _, _, _, _, s6, _⟩ => (g3.trans (Gr.of s6)).seqT hvq) ?_ ?_⟩
            · rintro i y T' σ H6 hi ⟨v5, v6, v7, v8, v9, v10, rfl, d6, s6, lag6⟩ hT
              obtain ⟨r, hr', py⟩ := paired_at hrows hi
              obtain ⟨⟨ks, rfl, kp, kn⟩, hrl⟩ := hall r (List.mem_of_getElem? hr')
              have hil : i < cyc ps := by rw [← hL]; exact (List.getElem?_eq_some_iff.mp hi).1
              have dT : D ≠ T' := ne_of_none d6 hT
              have s7 : ∀ b o, H3 b = some o → upd H6 T' (.tup [.int (i : Nat), y]) b = some o := fun b o e => by rw [upd_ne (ne_of_none (s6 b o e) hT)]; exact s6 b o e
              cases py with
              | @tup rb es rq rt rat rl =>
              refine ⟨T', _, rfl, SqT.of upd_same, rfl, _, _, rfl, _, _, rfl, rfl, ?_⟩
              -- for k in row
              refine ⟨_, rfl, rb, rfl, ⟨_, (g3.trans (Gr.of s7)).seqT rq⟩, for_tup (K := K) (a := rb) (xs := ks.map fun k => V.int (k : Nat)) (fun j σ H7 => ∃ v7, σ = [some (.ref a), some (.int (m : Nat)), some (.ref va), some (.int (cyc ps : Nat)), some (.ref D), some (.int (i : Nat)), some (.ref rb), v7, v8, v9, v10] ∧
                H7 D = some (.lst (dn ps.length fun k => cnt rows i k + (ks.take j).count k)) ∧ ∀ b o, H3 b = some o → H7 b = some o) ⟨v7, rfl, ?_, s7⟩ (fun j σ H7 _ ⟨_, _, _, s⟩ => (g3.trans (Gr.of s)).seqT rq) ?_ ?_⟩
              · rw [upd_ne dT, d6]
                exact congrArg (fun l => some (HO.lst l)) (dn_congr fun k _ => by simp)
              · rintro j z σ H7 hj ⟨v7, rfl, d7, s7⟩
                obtain ⟨k', hk', rfl⟩ := nV_get (l := ks) hj
                have hkn := kn k' (List.mem_of_getElem? hk')
                refine ⟨_, rfl, _, rfl, D, _, _, _, rfl, rfl, SqL.of d7, atI_nat (dn_get hkn), _, _, rfl, rfl, _, rfl, _, rfl, D, _, _, k', rfl, rfl, d7, ?_, ?_⟩
                · rw [dn_len]; exact ixN_nat hkn
                · refine ⟨_, rfl, ?_, fun b o e => ?_⟩
                  · rw [upd_same]
                    refine congrArg (fun l => some (HO.lst l)) ?_
                    show (dn ps.length fun k => cnt rows i k + (ks.take j).count k).set k' (V.int (((cnt rows i k' + (ks.take j).count k' : Nat) : Int) + 1)) = _
                    rw [show ((cnt rows i k' + (ks.take j).count k' : Nat) : Int) + 1 = ((cnt rows i k' + (ks.take j).count k' + 1 : Nat) : Int) by omega, dn_set hkn]
                    refine dn_congr fun q hq' => ?_
                    rw [List.take_add_one, hk', List.count_append]
                    by_cases e : q = k'
                    · subst e; simp; omega
                    · have : List.count q [k'] = 0 := List.count_eq_zero.mpr (by simp [e])
                      simp only [if_neg e, Option.toList]
                      omega
                  · rw [upd_ne (ne_of_none e hD)]; exact s7 b o e
              · rintro σ H7 ⟨v7, rfl, d7, s7⟩
                rw [List.length_map, List.take_length] at d7
                have d8 : H7 D = some (.lst (dn ps.length (cnt rows (i + 1)))) := by
                  rw [d7]
                  refine congrArg (fun l => some (HO.lst l)) (dn_congr fun q _ => ?_)
                  rw [cnt_succ hr']
                  show _ = cnt rows i q + (nV ks).count (V.int (q : Nat))
                  rw [nV_count]
                -- for k, (cost, gap) in enumerate(pairs)
                refine ⟨_, rfl, a, xs, rfl, (g3.trans (Gr.of s7)).seqT hq, Lx.for_enumT (fun j σ H8 => ∃ v7 v8 v9, σ = [some (.ref a), some (.int (m : Nat)), some (.ref va), some (.int (cyc ps : Nat)), some (.ref D), some (.int (i : Nat)), some (.ref rb), v7, v8, v9, v10] ∧
                  H8 D = some (.lst (dn ps.length (cnt rows (i + 1)))) ∧ (∀ b o, H3 b = some o → H8 b = some o) ∧ ∀ k, k < j → LagP ps rows i k) ⟨_, _, _, rfl, d8, s7, fun k h => absurd h (by omega)⟩ (fun j σ H8 _ ⟨_, _, _, _, _, s, _⟩ => (g3.trans (Gr.of s)).seqT hq) ?_ ?_⟩
                · rintro j z T2 σ H8 hj ⟨w7, w8, w9, rfl, d8, s8, lag8⟩ hT2
                  obtain ⟨pr, hy, py⟩ := paired_at hpp hj
                  have hjl : j < ps.length := (List.getElem?_eq_some_iff.mp hy).1
                  obtain ⟨c1, c2⟩ := pc_of hy
                  have okp := ok.ok _ (List.mem_of_getElem? hy)
                  have dT2 : D ≠ T2 := ne_of_none d8 hT2
                  have s9 : ∀ b o, H3 b = some o → upd H8 T2 (.tup [.int (j : Nat), z]) b = some o := fun b o e => by rw [upd_ne (ne_of_none (s8 b o e) hT2)]; exact s8 b o e
                  have hcnt : cnt rows (i + 1) j ≤ 64 * 61 := Nat.le_trans (cntR_le hr64 (i + 1)) (Nat.mul_le_mul_left _ (by omega))
                  cases py with
                  | @mk b2 cc gg hb2 hbt2 =>
                    simp only at okp c1 c2
                    have d9 : upd H8 T2 (.tup [.int (j : Nat), .ref b2]) D = some (.lst (dn ps.length (cnt rows (i + 1)))) := by rw [upd_ne dT2]; exact d8
                    refine ⟨T2, _, rfl, SqT.of upd_same, rfl, _, _, rfl, _, _, rfl, b2, _, rfl, (g3.trans (Gr.of s9)).seqT hb2, rfl, _, _, rfl, _, _, rfl, rfl, rfl, ?_⟩
                    have lagEq : LagP ps rows i j ↔ (-((gg : Nat) : Int) < ((i : Int) + 1) * ((cc : Nat) : Int) - ((cnt rows (i + 1) j : Nat) : Int) * ((gg : Nat) : Int) ∧ ((i : Int) + 1) * ((cc : Nat) : Int) - ((cnt rows (i + 1) j : Nat) : Int) * ((gg : Nat) : Int) < ((gg : Nat) : Int)) := by
                      unfold LagP
                      rw [c1, c2]
                    refine ⟨_, rfl, _, rfl, _, rfl, _, _, rfl, rfl, _, rfl, _, _, rfl, rfl, .inl ⟨by omega, by omega⟩, _, rfl, _, rfl, D, _, _, _, rfl, rfl, SqL.of d9, atI_nat (dn_get hjl), _, rfl, _, _, rfl, rfl, .inl ⟨by omega, by omega⟩, _, _, rfl, rfl, _, _, rfl, rfl, _, rfl, ?_⟩
                    have fin : ∀ {tl : Prop}, ¬ LagP ps rows i j → Q (.bl false) (upd H8 T2 (.tup [.int (j : Nat), .ref b2])) := fun hn =>
                      k false _ ⟨fun z => (by cases z), fun ⟨rows', z, _, _, hh⟩ => absurd (by cases z; exact hh i hil j hjl) hn⟩ (g3.trans (Gr.of s9))
                    show if decide (-((gg : Nat) : Int) < ((i : Int) + 1) * ((cc : Nat) : Int) - ((cnt rows (i + 1) j : Nat) : Int) * ((gg : Nat) : Int)) = true then _ else _
                    by_cases hA : -((gg : Nat) : Int) < ((i : Int) + 1) * ((cc : Nat) : Int) - ((cnt rows (i + 1) j : Nat) : Int) * ((gg : Nat) : Int)
                    · rw [decide_eq_true hA]
                      refine iteT ⟨_, rfl, _, _, rfl, rfl, _, rfl, ?_⟩
                      show if (!decide (((i : Int) + 1) * ((cc : Nat) : Int) - ((cnt rows (i + 1) j : Nat) : Int) * ((gg : Nat) : Int) < ((gg : Nat) : Int))) = true then _ else _
                      by_cases hB : ((i : Int) + 1) * ((cc : Nat) : Int) - ((cnt rows (i + 1) j : Nat) : Int) * ((gg : Nat) : Int) < ((gg : Nat) : Int)
                      · rw [decide_eq_true hB]
                        refine iteF ⟨_, _, _, rfl, d9, s9, fun k' hk' => ?_⟩
                        by_cases e : k' = j
                        · rw [e]; exact lagEq.mpr ⟨hA, hB⟩
                        · exact lag8 k' (by omega)
                      · rw [decide_eq_false hB]
                        exact iteT (fin (tl := True) fun z => hB (lagEq.mp z).2)
                    · rw [decide_eq_false hA]
                      refine iteF ⟨_, rfl, iteT (fin (tl := True) fun z => hA (lagEq.mp z).1)⟩
                · rintro σ H8 ⟨w7, w8, w9, rfl, d8, s8, lag8⟩
                  refine ⟨_, _, _, _, _, _, rfl, d8, s8, fun now hn k' hk' => ?_⟩
                  by_cases e : now = i
                  · rw [e]; exact lag8 k' (by rw [hl]; exact hk')
                  · exact lag6 now (by omega) k' hk'
            · rintro σ H6 ⟨v5, v6, v7, v8, v9, v10, rfl, d6, s6, lag6⟩
              refine k true H6 ⟨fun _ => ⟨rows, rfl, by rw [← hvlen]; exact hL, hall, fun now hn => lag6 now (by rw [hL]; exact hn)⟩, fun _ => rfl⟩ (g3.trans (Gr.of s6))
end
end Fair
end

section
set_option Elab.async false
set_option linter.all false
set_option maxRecDepth 100000
set_option maxHeartbeats 4000000
namespace Fair
open PySem PySem.Spec L2 FM
/-- writing at a leaves the list at sc as it is -/
def Off (K : PySem.W.Frag) (a sc : Addr) (xs : List V) : Prop := ∀ H' o, SqL K H' sc xs → SqL K (L2.upd H' a o) sc xs
theorem off_new {H : Hp} {a sc : Addr} {xs : List V} (q : SqL K H sc xs) (h : H a = none) : Off K a sc xs := by
  rcases q with q | q
  · have n : sc ≠ a := by
      rcases q with z | ⟨u, z⟩
      · exact ne_of_none z h
      · exact ne_of_none z h
    intro H' o q'
    rcases q' with (z | ⟨u, z⟩) | z
    · exact .inl (.inl (by rw [upd_ne n]; exact z))
    · exact .inl (.inr ⟨u, by rw [upd_ne n]; exact z⟩)
    · exact .inr z
  · exact fun _ _ _ => .inr q
/-- the law's record of what it has drawn -/
def Led (K : PySem.W.Frag) (H : Hp) (row sc : Addr) (ns : List Int) : Prop := ∃ i s b : Int, 0 ≤ i ∧ 0 ≤ s ∧ s < 2147483647 ∧ 0 ≤ b ∧ H row = some (.lst [.ref sc, .int i, .int s, .int b]) ∧ SqL K H sc (ns.map V.int) ∧ Off K row sc (ns.map V.int)
def spTaken (K : PySem.W.Frag) : Sp := fun vs H Q _ => ∃ (row sc : Addr) (ns : List Int) (many : Nat), vs = [.ref row, .int (many : Nat)] ∧ Led K H row sc ns ∧ 1 ≤ many ∧ many ≤ 1000000 ∧
  ∀ (r : Nat) H', r < many → Led K H' row sc ns → Fr [row] H H' → Q (.int (r : Nat)) H'
def spPick (K : PySem.W.Frag) : Sp := fun vs H Q _ => ∃ (row sc : Addr) (ns : List Int) (t : Addr) (xs : List V), vs = [.ref row, .ref t] ∧ Led K H row sc ns ∧ SqL K H t xs ∧ t ≠ row ∧ xs ≠ [] ∧ xs.length ≤ 1000000 ∧
  ∀ (i : Nat) (x : V) H', xs[i]? = some x → Led K H' row sc ns → Fr [row] H H' → Q x H'
def spAlike : Sp := fun vs H Q _ => ∃ a b : Bool, vs = [.bl a, .bl b] ∧ ∀ H', Same H H' → Q (.bl (decide (a = b))) H'
theorem fmod_lt (a : Int) {m : Nat} (h : 1 ≤ m) : ∃ r : Nat, r < m ∧ a.fmod (m : Int) = (r : Nat) := by
  have e : a.fmod (m : Int) = a % (m : Int) := Int.fmod_eq_emod_of_nonneg a (by omega)
  have h1 := Int.emod_nonneg a (b := (m : Int)) (by omega)
  have h2 := Int.emod_lt_of_pos a (b := (m : Int)) (by omega)
  exact ⟨(a % (m : Int)).toNat, by omega, by rw [e]; omega⟩
theorem fdiv_nn {a : Int} {m : Nat} (h : 0 ≤ a) : 0 ≤ a.fdiv (m : Int) := by
  rw [Int.fdiv_eq_ediv_of_nonneg _ (by omega)]
  exact Int.ediv_nonneg h (by omega)
theorem Fr.seqL {K : PySem.W.Frag} {rs : List Addr} {H H' : Hp} {a : Addr} {xs : List V} (e : Fr rs H H') (h : SqL K H a xs) (n : a ∉ rs) : SqL K H' a xs := by
  rcases h with (h | ⟨o, h⟩) | h
  · exact .inl (.inl (e.kp _ _ h n))
  · exact .inl (.inr ⟨o, e.kp _ _ h n⟩)
  · exact .inr h
section
variable {P : Program} {w : World} {K : PySem.W.Frag} {mg : Str → Option Value} {base : Heap} {f C : Addr} {fd : FuncData}
theorem scTaken : FnScope ["_law_row", "_law_many", "_law_found", "_law_cell"] ["_law_row", "_law_many"] (defScope sTaken) := ⟨rfl, rfl, rfl, by decide +kernel, rfl, by decide +kernel, by decide +kernel⟩
theorem ok_taken (F : FnP K "_law_taken" "_law_taken" sTaken f fd) (T : Tx mg) : FnOk P w K mg base CX0 1 f fd ["_law_row", "_law_many"] (spTaken K) := by
  refine okN F scTaken (fun vs H Q E h => ?_) (fun cdv A outer s H vs Q E hr h => ?_)
  · obtain ⟨row, sc, ns, many, rfl, _⟩ := h
    rfl
  · obtain ⟨row, sc, ns, many, rfl, ⟨i, sd, b, hi, hs0, hs1, hb, hrow, hsc, hne⟩, h1, hm, k⟩ := h
    refine ⟨_, pss_cons (ps_if (pt_cmpR op_gt (pe_ix ix_list (pv 0) pe_int (fun _ _ => rfl)) pe_int (nomark _))
        (pss_cons (ps_set (i := 2) scTaken.nd rfl (.inl rfl) (pe_op op_modN (pe_callTy call_int1 rfl T.int PyProof.Rows.boot_int (pa_cons (pe_ix ix_list (pv 0) pe_int (fun _ _ => rfl)) pa_nil)) (pv 1)))
        (pss_cons (ps_asg (pe_op op_fdivN (pe_ix ix_list (pv 0) pe_int (fun _ _ => rfl)) (pv 1)) (pg_sub (pv 0) pe_int set_list (fun _ => rfl)))
        (pss_one (ps_ret (pv 2))))) pss_nil)
      (pss_cons (ps_asg (pe_op op_add (pe_ix ix_list (pv 0) pe_int (fun _ _ => rfl)) pe_int) (pg_sub (pv 0) pe_int set_list (fun _ => rfl)))
      (pss_cons (ps_if (pt_cmpR op_gt (pe_ix ix_list (pv 0) pe_int (fun _ _ => rfl)) (pe_callB call_len_seq rfl T.len PySem.boot_len (pa_cons (pe_ix ix_list (pv 0) pe_int (fun _ _ => rfl)) pa_nil)) (nomark _))
        (pss_cons (ps_asg (pe_op op_mod (pe_callTy call_int1 rfl T.int PyProof.Rows.boot_int (pa_cons (pe_op op_add (pe_op op_mul (pe_ix ix_list (pv 0) pe_int (fun _ _ => rfl)) pe_int) pe_int) pa_nil)) pe_int) (pg_sub (pv 0) pe_int set_list (fun _ => rfl)))
        (pss_one (ps_ret (pe_op op_modN (pe_callTy call_int1 rfl T.int PyProof.Rows.boot_int (pa_cons (pe_op op_fdiv (pe_ix ix_list (pv 0) pe_int (fun _ _ => rfl)) pe_int) pa_nil)) (pv 1))))) pss_nil)
      (pss_cons (ps_set (i := 3) scTaken.nd rfl (.inl rfl) (pe_ix ix_list (pe_ix ix_list (pv 0) pe_int (fun _ _ => rfl)) (pe_op op_sub (pe_ix ix_list (pv 0) pe_int (fun _ _ => rfl)) pe_int) (fun _ _ => rfl)))
      (pss_cons (ps_asg (pe_op op_mod (pe_callTy call_int1 rfl T.int PyProof.Rows.boot_int (pa_cons (pe_op op_add (pe_op op_add (pe_op op_mul (pe_ix ix_list (pv 0) pe_int (fun _ _ => rfl)) pe_int) (pv 3)) pe_int) pa_nil)) pe_int) (pg_sub (pv 0) pe_int set_list (fun _ => rfl)))
      (pss_cons (ps_if (pt_cmpR op_ge (pv 3) (pe_op op_pow pe_int pe_int) (nomark _)) (pss_one (ps_asg (pe_op op_fdivN (pv 3) (pv 1)) (pg_sub (pv 0) pe_int set_list (fun _ => rfl)))) pss_nil)
      (pss_one (ps_ret (pe_op op_modN (pe_callTy call_int1 rfl T.int PyProof.Rows.boot_int (pa_cons (pv 3) pa_nil)) (pv 1))))))))), ?_⟩
    have frw : ∀ l, Fr [row] H (upd H row (.lst l)) := fun l => Fr.upd (List.mem_singleton.mpr rfl) (by rw [hrow]; simp)
    have hm0 : (many : Int) ≠ 0 := by omega
    have hmb : (many : Int).natAbs < 1073741824 := by rw [Int.natAbs_natCast]; omega
    -- if _law_row[3] > 0
    refine ⟨_, rfl, row, _, _, _, rfl, rfl, SqL.of hrow, rfl, _, _, rfl, rfl, _, rfl, ?_⟩
    show if decide (b > 0) = true then _ else _
    by_cases hb0 : b > 0
    · rw [decide_eq_true hb0]
      refine iteT ?_
      refine ⟨_, rfl, row, _, _, _, rfl, rfl, SqL.of hrow, rfl, .inl ⟨_, rfl, _, rfl, _, _, rfl, rfl, hm0, ?_⟩⟩
      refine ⟨_, rfl, row, _, _, _, rfl, rfl, SqL.of hrow, rfl, _, rfl, _, _, rfl, rfl, ⟨hm0, hmb⟩, _, rfl, row, _, _, 3, rfl, rfl, hrow, rfl, ?_⟩
      obtain ⟨r, hr1, hr2⟩ := fmod_lt b h1
      refine ⟨_, rfl, ?_⟩
      show Q (.int (b.fmod (many : Int))) _
      rw [hr2]
      exact k r _ hr1 ⟨i, sd, b.fdiv (many : Int), hi, hs0, hs1, fdiv_nn hb, upd_same, hne _ _ hsc, hne⟩ (frw _)
    · rw [decide_eq_false hb0]
      refine iteF ?_
      refine ⟨_, rfl, row, _, _, _, rfl, rfl, SqL.of hrow, rfl, _, _, rfl, rfl, _, rfl, row, _, _, 1, rfl, rfl, hrow, rfl, ?_⟩
      have u1 : upd H row (.lst [.ref sc, .int (i + 1), .int sd, .int b]) row = some (.lst [.ref sc, .int (i + 1), .int sd, .int b]) := upd_same
      have q1 : SqL K (upd H row (.lst [.ref sc, .int (i + 1), .int sd, .int b])) sc (ns.map V.int) := hne _ _ hsc
      refine ⟨_, rfl, row, _, _, _, rfl, rfl, SqL.of u1, rfl, _, rfl, row, _, _, _, rfl, rfl, SqL.of u1, rfl, sc, _, rfl, .inl q1, _, _, rfl, rfl, _, rfl, ?_⟩
      show if decide (i + 1 > (((ns.map V.int).length : Nat) : Int)) = true then _ else _
      rw [List.length_map]
      by_cases hlen : i + 1 > (ns.length : Int)
      · rw [decide_eq_true hlen]
        refine iteT ?_
        refine ⟨_, rfl, row, _, _, _, rfl, rfl, SqL.of u1, rfl, _, _, rfl, rfl, .inl ⟨by omega, by omega⟩, _, _, rfl, rfl, .inl ⟨_, rfl, _, _, rfl, rfl, (by show (0 : Int) < 2147483647; decide), ?_⟩⟩
        have e1 := Int.emod_nonneg (sd * 48271 + 11) (b := (2147483647 : Int)) (by decide)
        have e2 := Int.emod_lt_of_pos (sd * 48271 + 11) (b := (2147483647 : Int)) (by decide)
        refine ⟨_, rfl, row, _, _, 2, rfl, rfl, u1, rfl, ?_⟩
        rw [upd_upd]
        refine ⟨_, rfl, row, _, _, _, rfl, rfl, SqL.of upd_same, rfl, _, _, rfl, rfl, ⟨by decide, by decide⟩, .inl ⟨_, rfl, _, rfl, _, _, rfl, rfl, hm0, ?_⟩⟩
        obtain ⟨r, hr1, hr2⟩ := fmod_lt ((sd * 48271 + 11) % 2147483647 / 7) h1
        show Q (.int (((sd * 48271 + 11) % 2147483647 / 7).fmod (many : Int))) _
        rw [hr2]
        exact k r _ hr1 ⟨i + 1, _, b, by omega, e1, e2, hb, upd_same, hne _ _ hsc, hne⟩ (frw _)
      · rw [decide_eq_false hlen]
        refine iteF ?_
        obtain ⟨cell, hcell⟩ : ∃ c, (ns.map V.int)[i.toNat]? = some (.int c) := by
          rw [List.getElem?_map, List.getElem?_eq_getElem (by omega)]
          exact ⟨_, rfl⟩
        have hat : atI (ns.map V.int) (i + 1 - 1) = some (.int cell) := by
          rw [show i + 1 - 1 = ((i.toNat : Nat) : Int) by omega]
          exact atI_nat hcell
        refine ⟨_, rfl, row, _, _, _, rfl, rfl, SqL.of u1, rfl, _, rfl, row, _, _, _, rfl, rfl, SqL.of u1, rfl, _, _, rfl, rfl, sc, _, _, _, rfl, rfl, q1, hat, ?_⟩
        refine ⟨_, rfl, row, _, _, _, rfl, rfl, SqL.of u1, rfl, _, _, rfl, rfl, .inl ⟨by omega, by omega⟩, _, rfl, _, _, rfl, rfl, _, _, rfl, rfl, .inl ⟨_, rfl, _, _, rfl, rfl, (by show (0 : Int) < 2147483647; decide), ?_⟩⟩
        have e1 := Int.emod_nonneg (sd * 48271 + cell + 11) (b := (2147483647 : Int)) (by decide)
        have e2 := Int.emod_lt_of_pos (sd * 48271 + cell + 11) (b := (2147483647 : Int)) (by decide)
        refine ⟨_, rfl, row, _, _, 2, rfl, rfl, u1, rfl, ?_⟩
        rw [upd_upd]
        refine ⟨_, rfl, _, _, rfl, rfl, ⟨by decide, by decide, by decide⟩, _, _, rfl, rfl, _, rfl, ?_⟩
        show if decide (cell ≥ (10 : Int) ^ ((18 : Int).toNat)) = true then _ else _
        obtain ⟨r, hr1, hr2⟩ := fmod_lt cell h1
        by_cases hc : cell ≥ (10 : Int) ^ ((18 : Int).toNat)
        · rw [decide_eq_true hc]
          have hc0 : (0 : Int) ≤ cell := Int.le_trans (by decide) hc
          refine iteT ⟨_, rfl, _, rfl, _, _, rfl, rfl, ⟨hm0, hmb⟩, _, rfl, row, _, _, 3, rfl, rfl, upd_same, rfl, ?_⟩
          rw [upd_upd]
          refine ⟨_, rfl, .inl ⟨_, rfl, _, rfl, _, _, rfl, rfl, hm0, ?_⟩⟩
          show Q (.int (cell.fmod (many : Int))) _
          rw [hr2]
          exact k r _ hr1 ⟨i + 1, _, cell.fdiv (many : Int), by omega, e1, e2, fdiv_nn hc0, upd_same, hne _ _ hsc, hne⟩ (frw _)
        · rw [decide_eq_false hc]
          refine iteF ⟨_, rfl, .inl ⟨_, rfl, _, rfl, _, _, rfl, rfl, hm0, ?_⟩⟩
          show Q (.int (cell.fmod (many : Int))) _
          rw [hr2]
          exact k r _ hr1 ⟨i + 1, _, b, by omega, e1, e2, hb, upd_same, hne _ _ hsc, hne⟩ (frw _)
end
end Fair
end

section
set_option Elab.async false
set_option linter.all false
set_option maxRecDepth 100000
set_option maxHeartbeats 4000000
namespace Fair
open PySem PySem.Spec L2 FM
section
variable {P : Program} {w : World} {K : PySem.W.Frag} {mg : Str → Option Value} {base : Heap} {f C : Addr} {fd : FuncData}
theorem scPick : FnScope ["_law_row", "_law_things"] ["_law_row", "_law_things"] (defScope sPick) := ⟨rfl, rfl, rfl, by decide +kernel, rfl, by decide +kernel, by decide +kernel⟩
theorem ok_pick {f1 : Addr} {fd1 : FuncData} (F : FnP K "_law_pick" "_law_pick" sPick f fd) (T : Tx mg) (G : FnOk P w K mg base CX0 1 f1 fd1 ["_law_row", "_law_many"] (spTaken K)) (g1 : mg "_law_taken" = some (.ref f1)) (kp : PySem.W.keepIn K (.ref f1) = true) (b : Binds K fd1 ["_law_row", "_law_many"] []) :
    FnOk P w K mg base CX0 2 f fd ["_law_row", "_law_things"] (spPick K) := by
  refine okN F scPick (fun vs H Q E h => ?_) (fun cdv A outer s H vs Q E hr h => ?_)
  · obtain ⟨row, sc, ns, t, xs, rfl, _⟩ := h
    rfl
  · obtain ⟨row, sc, ns, t, xs, rfl, led, hq, hne, hnil, hlen, k⟩ := h
    refine ⟨_, pss_one (ps_ret (pe_ix ix_list (pv 1) (pe_call G hr rfl g1 kp b .nil pass0 (pa_cons (pv 0) (pa_cons (pe_callB call_len_seq rfl T.len PySem.boot_len (pa_cons (pv 1) pa_nil)) pa_nil))) (fun _ _ => rfl))), ?_⟩
    have hl : 1 ≤ xs.length := List.length_pos_iff.mpr hnil
    refine ⟨_, rfl, _, rfl, _, rfl, t, xs, rfl, .inl hq, row, sc, ns, xs.length, rfl, led, hl, hlen, fun r H' hr' led' fr => ?_⟩
    have hx : xs[r]? = some xs[r] := List.getElem?_eq_getElem hr'
    exact ⟨t, xs, _, xs[r], rfl, rfl, fr.seqL hq (fun z => hne (List.mem_singleton.mp z)), atI_nat hx, k r _ H' hx led' fr⟩
theorem scAlike : FnScope ["_law_found", "_law_due"] ["_law_found", "_law_due"] (defScope sAlike) := ⟨rfl, rfl, rfl, by decide +kernel, rfl, by decide +kernel, by decide +kernel⟩
theorem ok_alike (F : FnP K "_law_alike" "_law_alike" sAlike f fd) (T : Tx mg) : FnOk P w K mg base CX0 1 f fd ["_law_found", "_law_due"] spAlike := by
  refine okN F scAlike (fun vs H Q E h => ?_) (fun cdv A outer s H vs Q E hr h => ?_)
  · obtain ⟨a, b, rfl, _⟩ := h
    rfl
  · obtain ⟨a, b, rfl, k⟩ := h
    refine ⟨_, pss_cons (ps_if (pt_val (pe_callB call_isiT rfl T.isi PyProof.Rows.boot_isinstance (pa_cons (pv 1) (pa_cons (pe_tup (pa_cons (pe_bltn (v := .ty "tuple") rfl T.tuple (by decide +kernel) rfl) (pa_cons (pe_bltn (v := .ty "list") rfl T.list (by decide +kernel) rfl) pa_nil))) pa_nil)))) pss_never pss_nil)
      (pss_cons (ps_if (PW.pt (pw_or (pt_cmp (pc_isN (pv 1))) (pw_or1 (pt_val (pe_callB call_isi rfl T.isi PyProof.Rows.boot_isinstance (pa_cons (pv 1) (pa_cons (pe_bltn (v := .ty "str") rfl T.str (by decide +kernel) rfl) pa_nil))))))) pss_never pss_nil)
      (pss_one (ps_ret (pe_and (pe_callB call_isi rfl T.isi PyProof.Rows.boot_isinstance (pa_cons (pv 0) (pa_cons (pe_bltn (v := .ty "int") rfl T.int PyProof.Rows.boot_int rfl) pa_nil)))
        (pe_and (pe_cmpR op_eq (pe_callB call_isi rfl T.isi PyProof.Rows.boot_isinstance (pa_cons (pv 0) (pa_cons (pe_bltn (v := .ty "bool") rfl T.bool PyProof.Rows.boot_bool rfl) pa_nil))) (pe_callB call_isi rfl T.isi PyProof.Rows.boot_isinstance (pa_cons (pv 1) (pa_cons (pe_bltn (v := .ty "bool") rfl T.bool PyProof.Rows.boot_bool rfl) pa_nil))) (nomark _))
        (pe_one (pe_cmpR op_eq (pv 0) (pv 1) (nomark _)))))))), ?_⟩
    refine ⟨_, rfl, (by show 2 ≤ sizeLine; decide), fun tp htp => ?_⟩
    have s1 : Same H (upd H tp (.tup [.ty "tuple", .ty "list"])) := fun c o e => by rw [upd_ne (ne_of_none e htp)]; exact e
    refine ⟨_, tp, _, _, _, false, rfl, upd_same, .cons (.ty _) (.cons (.ty _) .nil), .base (.bl b), kitAny_cons (kit_ty (b := "tuple") (r := false) (by decide +kernel)) (fun _ => kitAny_cons (kit_ty (b := "list") (r := false) (by decide +kernel)) (fun _ => kitAny_nil) (fun z => by cases z)) (fun z => by cases z), _, rfl, iteF ?_⟩
    refine ⟨_, rfl, _, rfl, iteF ?_⟩
    refine ⟨_, rfl, _, _, _, _, false, rfl, .ty _, .base (.bl b), kit_ty (by decide +kernel), _, rfl, iteF ?_⟩
    refine ⟨_, rfl, _, _, _, _, true, rfl, .ty _, .base (.bl a), kit_ty (by decide +kernel), _, rfl, iteT ?_⟩
    refine ⟨_, rfl, _, _, _, _, true, rfl, .ty _, .base (.bl a), kit_ty (by decide +kernel), _, rfl, _, _, _, _, true, rfl, .ty _, .base (.bl b), kit_ty (by decide +kernel), rfl, _, rfl, iteT ?_⟩
    refine ⟨_, rfl, _, rfl, rfl, ?_⟩
    have e : (V.bl (decide (V.bl a = V.bl b))) = V.bl (decide (a = b)) := by cases a <;> cases b <;> rfl
    rw [e]
    exact k _ s1
/-! ### data for == [] -/
theorem flat_data {H : Hp} : ∀ {es : List V}, (∀ e ∈ es, At e) → ∃ ds, DpAll K H es ds ∧ PyData.canLayAll0 ds = true ∧ PyData.depthAll ds ≤ 1 ∧ PyData.eqvAll ds [] = es.isEmpty
  | [], _ => ⟨[], .nil, rfl, Nat.zero_le _, rfl⟩
  | e :: es, h => by
    obtain ⟨ds, h1, h2, h3, _⟩ := flat_data (H := H) fun e he => h e (List.mem_cons_of_mem _ he)
    have he := h e List.mem_cons_self
    have : ∃ d, Dp K H e d ∧ PyData.canLay0 d = true ∧ PyData.depth d ≤ 1 := by
      cases e with
      | int i => exact ⟨_, .int i, by simp only [PyData.canLay0], by simp only [PyData.depth]; omega⟩
      | bl b => exact ⟨_, .bl b, by simp only [PyData.canLay0], by simp only [PyData.depth]; omega⟩
      | str z =>
        have hz : z = ("0" : Str) := he
        subst hz
        exact ⟨_, .str _, by simp only [PyData.canLay0]; decide +kernel, by simp only [PyData.depth]; omega⟩
      | _ => exact he.elim
    obtain ⟨d, k1, k2, k3⟩ := this
    refine ⟨d :: ds, .cons k1 h1, by simp only [PyData.canLayAll0, k2, h2, Bool.and_self], ?_, by simp only [PyData.eqvAll, List.isEmpty_cons]⟩
    simp only [PyData.depthAll]
    omega
theorem pairs_data {H : Hp} : ∀ {xs : List V} {ps : PR}, Paired (PairAt K H) xs ps → ∃ ds, DpAll K H xs ds ∧ PyData.canLayAll0 ds = true ∧ PyData.depthAll ds ≤ 1 ∧ PyData.eqvAll ds [] = xs.isEmpty
  | _, _, .nil => ⟨[], .nil, rfl, Nat.zero_le _, rfl⟩
  | _, _, .cons r t => by
    obtain ⟨ds, h1, h2, h3, _⟩ := pairs_data t
    cases r with
    | @mk a c g h ty =>
      refine ⟨.tuple [.int (c : Nat), .int (g : Nat)] :: ds, .cons (.tup h (.cons (.int _) (.cons (.int _) .nil))) h1, ?_, ?_, by simp only [PyData.eqvAll, List.isEmpty_cons]⟩
      · simp only [PyData.canLayAll0, PyData.canLay0, h2, Bool.and_self]
      · simp only [PyData.depthAll, PyData.depth]
        omega
theorem shaped_list {ds : List PyData} (h1 : PyData.canLayAll0 ds = true) (h2 : PyData.depthAll ds ≤ 1) : SeqAt.shaped (.list ds) = true := by
  unfold SeqAt.shaped
  rw [Bool.and_eq_true]
  refine ⟨by simp only [PyData.canLay0]; exact h1, ?_⟩
  rw [decide_eq_true_eq]
  simp only [PyData.depth]
  omega
theorem eqv_nil (ds : List PyData) : PyData.eqv (.list ds) (.list []) = PyData.eqvAll ds [] := by simp only [PyData.eqv]
end
end Fair
end

section
set_option Elab.async false
set_option linter.all false
set_option maxRecDepth 100000
set_option maxHeartbeats 4000000
namespace Fair
open PySem PySem.Spec L2 FM
def spLCycle (K : PySem.W.Frag) : Sp := fun vs H Q _ => ∃ (x : V) (ps : PR), vs = [x] ∧ PairsAt K H x ps ∧ OkC ps ∧ ∀ H', Same H H' → Q (.int (cyc ps : Nat)) H'
theorem fmod_nat (a b : Nat) : ((a : Int).fmod (b : Int)) = ((a % b : Nat) : Int) := by
  rw [Int.fmod_eq_emod_of_nonneg _ (by omega), Int.natCast_emod]
section
variable {P : Program} {w : World} {K : PySem.W.Frag} {mg : Str → Option Value} {base : Heap} {f C : Addr} {fd : FuncData}
theorem scLCycle : FnScope ["_law_pairs_here", "_law_found", "_law_pair"] ["_law_pairs_here"] (defScope sLCycle) := ⟨rfl, rfl, rfl, by decide +kernel, rfl, by decide +kernel, by decide +kernel⟩
theorem ok_lcycle (F : FnP K "_law_cycle" "_law_cycle" sLCycle f fd) (T : Tx mg) : FnOk P w K mg base CX0 1 f fd ["_law_pairs_here"] (spLCycle K) := by
  refine okN F scLCycle (fun vs H Q E h => ?_) (fun cdv A outer s H vs Q E hr h => ?_)
  · obtain ⟨x, ps, rfl, _⟩ := h
    rfl
  · obtain ⟨x, ps, rfl, hp, ok, k⟩ := h
    cases hp with
    | @mk a xs _ hq ht hpp =>
    have hl := paired_len hpp
    refine ⟨_, pss_cons (ps_for PassesOwn.never rfl (pi_range2 rfl T.range (pa_cons pe_int (pa_cons pe_int pa_nil))) (pg_name (i := 1) scLCycle.nd rfl (.inr rfl))
        (pss_one (ps_if (pt_cmpR (op_eqD hr.units) (pe_lc (own := [("_law_pair", 2)]) (g := gName 2) rfl scLCycle.nd (pi_tup (pv 0)) (blkOk_by (own := [("_law_pair", 2)]) (N := ["_law_pairs_here", "_law_found", "_law_pair"]) (sc := defScope sLCycle) (by decide +kernel))
            (fun _ _ _ _ _ => pg_name (i := 2) scLCycle.nd rfl (Or.inl rfl))
            (fun _ _ _ _ _ => pts_one (pt_cmpR op_ne (pe_op op_modN (pe_callTy call_int1 rfl T.int PyProof.Rows.boot_int (pa_cons (pv 1) pa_nil)) (pe_ix (show IxR _ (rIxT K) from ix_tup) (pv 2) pe_int (fun _ _ => rfl))) pe_int (nomark _)))
            (fun _ _ _ _ _ => pv 2)) (pe_lst pa_nil) (nomark _)) (pss_one (ps_ret (pv 1))) pss_nil)))
      (pss_one (ps_ret pe_int)), ?_⟩
    have hcy := ok.cy
    have hc0 := ok.pos
    refine ⟨1, 121, rfl, ⟨by decide, by decide, by decide, by decide⟩, ?_⟩
    refine for_range (lo := 1) (n := ((121 : Int) - 1).toNat) (fun i σ H2 => ∃ v1, σ = [some (.ref a), v1, none] ∧ Same H H2 ∧ ∀ f, 1 ≤ f → f < i + 1 → ¬ ∀ p ∈ ps, p.2 ∣ f) ⟨_, rfl, Same.refl H, fun f h1 h2 => absurd h2 (by omega)⟩ ?_ ?_
    · rintro i σ H2 hi ⟨v1, rfl, s2, hno⟩
      have e1 : (1 : Int) + (i : Int) = ((i + 1 : Nat) : Int) := by omega
      rw [e1]
      refine ⟨_, rfl, a, rfl, ⟨_, (Gr.of s2).seqT hq⟩, fun D hD => ?_⟩
      have old : ∀ H5, (∀ b, b ≠ D → H5 b = H2 b) → Same H2 H5 := fun H5 e b o hb => by rw [e b (ne_of_none hb hD)]; exact hb
      refine lc_tup (K := K) (a := a) (xs := xs) (fun j H5 => ∃ vs qs, H5 D = some (.lst vs) ∧ Paired (PairAt K H) vs qs ∧ vs.length ≤ j ∧ (vs = [] ↔ ∀ p ∈ ps.take j, p.2 ∣ i + 1) ∧ ∀ b, b ≠ D → H5 b = H2 b)
        ⟨[], [], upd_same, .nil, Nat.le_refl _, ⟨fun _ p hp => by simp at hp, fun _ => rfl⟩, fun b hb => upd_ne hb⟩ (fun j H5 _ ⟨_, _, _, _, _, _, e⟩ => (Gr.of (s2.trans (old H5 e))).seqT hq) ?_ ?_
      · rintro j y H5 hj ⟨vs, qs, d5, pq, hvl, hiff, e5⟩
        obtain ⟨pr, hy, py⟩ := paired_at hpp hj
        have hjl := (List.getElem?_eq_some_iff.mp hy).1
        have okp := ok.ok _ (List.mem_of_getElem? hy)
        have et : ps.take (j + 1) = ps.take j ++ [pr] := by rw [List.take_add_one, hy] <;> rfl
        have s5 := s2.trans (old H5 e5)
        have py' := py
        cases py with
        | @mk b c g hb hbt =>
          simp only at okp
          refine ⟨rfl, _, rfl, .inl ⟨_, rfl, _, rfl, b, _, _, _, rfl, rfl, (Gr.of s5).seqT hb, rfl, _, _, rfl, rfl, (by omega), rfl, _, rfl, ?_⟩⟩
          show if (!decide (V.int (((i + 1 : Nat) : Int).fmod (g : Int)) = V.int 0)) = true then _ else _
          rw [fmod_nat]
          have h4 := ok.l4
          by_cases hd : g ∣ i + 1
          · rw [decide_eq_true (by rw [Nat.mod_eq_zero_of_dvd hd] <;> rfl)]
            refine iteF ⟨vs, qs, d5, pq, by omega, ?_, e5⟩
            rw [hiff, et]
            constructor
            · intro h p hp
              rcases List.mem_append.mp hp with z | z
              · exact h p z
              · rw [List.mem_singleton.mp z]; exact hd
            · intro h p hp
              exact h p (List.mem_append_left _ hp)
          · rw [decide_eq_false (fun z => hd (Nat.dvd_of_mod_eq_zero (by have := V.int.inj z; omega)))]
            refine iteT ⟨_, rfl, vs, d5, small1000 (by omega), vs ++ [.ref b], qs ++ [(c, g)], upd_same, paired_append pq py', by rw [List.length_append, List.length_singleton]; omega, ?_, fun b' hb' => by rw [upd_ne hb']; exact e5 b' hb'⟩
            constructor
            · intro h; simp at h
            · intro h
              exact absurd (h (c, g) (by rw [et]; simp)) hd
      · rintro H5 ⟨vs, qs, d5, pq, hvl, hiff, e5⟩
        refine ⟨by decide, fun l hl' => ?_⟩
        have s5 := s2.trans (old H5 e5)
        have s6 : Same H (upd H5 l (.lst [])) := fun b o e => by rw [upd_ne (ne_of_none (s5 b o e) hl')]; exact s5 b o e
        obtain ⟨ds, k1, k2, k3, k4⟩ := pairs_data (paired_map (fun _ _ q => (Gr.of s6).pair q) pq)
        have d6 : upd H5 l (.lst []) D = some (.lst vs) := by rw [upd_ne (ne_of_none d5 hl')]; exact d5
        refine ⟨.list ds, .list [], .lst (SqL.of d6) k1, .lst (SqL.of upd_same) .nil, shaped_list k2 k3, shaped_list (by simp only [PyData.canLayAll0]) (by simp only [PyData.depthAll]; omega), _, rfl, ?_⟩
        rw [eqv_nil, k4]
        rw [hl, List.take_length] at hiff
        cases hv : vs with
        | nil =>
          have hall := hiff.mp hv
          refine iteT ⟨_, rfl, ?_⟩
          have hdv := cyc_least hall
          have hle : cyc ps ≤ i + 1 := Nat.le_of_dvd (by omega) hdv
          have : cyc ps = i + 1 := by
            by_cases e : cyc ps = i + 1
            · exact e
            · exact absurd (fun p hp => dvd_cyc hp) (hno (cyc ps) hc0 (by omega))
          rw [← this]
          exact k _ s6
        | cons y ys =>
          refine iteF ⟨_, rfl, s6, fun f h1 h2 => ?_⟩
          by_cases e : f = i + 1
          · rw [e]
            intro h
            have := hiff.mpr h
            rw [hv] at this
            cases this
          · exact hno f h1 (by omega)
    · rintro σ H2 ⟨v1, rfl, s2, hno⟩
      exact absurd (fun p hp => dvd_cyc hp) (hno (cyc ps) hc0 (by show cyc ps < 120 + 1; omega))
end
end Fair
end

section
set_option Elab.async false
set_option linter.all false
set_option maxRecDepth 100000
set_option maxHeartbeats 4000000
namespace Fair
open PySem PySem.Spec L2 FM
theorem same_new {H : Hp} {l : Addr} {o : HO} (h : H l = none) : Same H (upd H l o) := fun b u e => by rw [upd_ne (ne_of_none e h)]; exact e
def GapsOk (gs : List Int) (M : Nat) : Prop := gs ≠ [] ∧ gs.length ≤ 4 ∧ 0 < M ∧ M ≤ 60 ∧ ∀ g ∈ gs, 1 ≤ g ∧ g ≤ 12 ∧ (M : Int) % g = 0
def tMenu : TE := fun σ H Q => ∀ l H' xs, Same H H' → H l = none → H' l = some (.lst xs) → xs.length = 9 → (∀ x ∈ xs, ∃ b gs M, x = V.ref b ∧ H b = none ∧ H' b = some (.lst (gs.map V.int)) ∧ GapsOk gs M) → Q (.ref l) H'
section
variable {P : Program} {w : World} {K : PySem.W.Frag} {mg : Str → Option Value} {base : Heap} {f C : Addr} {fd : FuncData}
def menuE : Expr := match defBody sPairs with
  | (.Assign _ (.Tuple [.Call _ [_, e] _ _, _] _ _) _) :: _ => e
  | _ => .Constant .none 0 ⟨0, 0, 0, 0⟩
theorem pe_menu {X : Cx} : PE X menuE tMenu := by
  refine peImp (t := _) (show PE X menuE _ from (pe_lst (pa_cons (pe_lst (pa_cons pe_int (pa_cons pe_int (pa_cons pe_int pa_nil)))) (pa_cons (pe_lst (pa_cons pe_int (pa_cons pe_int (pa_cons pe_int pa_nil)))) (pa_cons (pe_lst (pa_cons pe_int (pa_cons pe_int (pa_cons pe_int (pa_cons pe_int pa_nil))))) (pa_cons (pe_lst (pa_cons pe_int (pa_cons pe_int (pa_cons pe_int pa_nil)))) (pa_cons (pe_lst (pa_cons pe_int pa_nil)) (pa_cons (pe_lst (pa_cons pe_int (pa_cons pe_int (pa_cons pe_int pa_nil)))) (pa_cons (pe_lst (pa_cons pe_int (pa_cons pe_int (pa_cons pe_int pa_nil)))) (pa_cons (pe_lst (pa_cons pe_int (pa_cons pe_int (pa_cons pe_int pa_nil)))) (pa_cons (pe_lst (pa_cons pe_int (pa_cons pe_int (pa_cons pe_int pa_nil)))) pa_nil))))))))))) ?_
  intro σ H Q k
  refine ⟨by decide, fun l0 h0 => ?_⟩
  have s0 := same_new (o := (.lst ([(2 : Int), (3 : Int), (6 : Int)].map V.int))) h0
  refine ⟨by decide, fun l1 h1 => ?_⟩
  have s1 := same_new (o := (.lst ([(2 : Int), (4 : Int), (8 : Int)].map V.int))) h1
  refine ⟨by decide, fun l2 h2 => ?_⟩
  have s2 := same_new (o := (.lst ([(3 : Int), (4 : Int), (6 : Int), (12 : Int)].map V.int))) h2
  refine ⟨by decide, fun l3 h3 => ?_⟩
  have s3 := same_new (o := (.lst ([(5 : Int), (10 : Int), (2 : Int)].map V.int))) h3
  refine ⟨by decide, fun l4 h4 => ?_⟩
  have s4 := same_new (o := (.lst ([(7 : Int)].map V.int))) h4
  refine ⟨by decide, fun l5 h5 => ?_⟩
  have s5 := same_new (o := (.lst ([(4 : Int), (5 : Int), (10 : Int)].map V.int))) h5
  refine ⟨by decide, fun l6 h6 => ?_⟩
  have s6 := same_new (o := (.lst ([(1 : Int), (2 : Int), (12 : Int)].map V.int))) h6
  refine ⟨by decide, fun l7 h7 => ?_⟩
  have s7 := same_new (o := (.lst ([(4 : Int), (5 : Int), (6 : Int)].map V.int))) h7
  refine ⟨by decide, fun l8 h8 => ?_⟩
  have s8 := same_new (o := (.lst ([(3 : Int), (4 : Int), (5 : Int)].map V.int))) h8
  refine ⟨by show 9 ≤ sizeLine; decide, fun lo ho => ?_⟩
  have so := same_new (o := .lst [V.ref l0, V.ref l1, V.ref l2, V.ref l3, V.ref l4, V.ref l5, V.ref l6, V.ref l7, V.ref l8]) ho
  refine k lo _ _ (((((((((s0.trans s1).trans s2).trans s3).trans s4).trans s5).trans s6).trans s7).trans s8).trans so) (((((((((s0.trans s1).trans s2).trans s3).trans s4).trans s5).trans s6).trans s7).trans s8).free ho) upd_same rfl fun x hx => ?_
  simp only [List.mem_cons, List.not_mem_nil, or_false] at hx
  rcases hx with rfl | rfl | rfl | rfl | rfl | rfl | rfl | rfl | rfl
  · exact ⟨l0, [2, 3, 6], 6, rfl, h0, (s1.trans (s2.trans (s3.trans (s4.trans (s5.trans (s6.trans (s7.trans (s8.trans so)))))))) _ _ upd_same, by decide, by decide, by decide, by decide, by decide⟩
  · exact ⟨l1, [2, 4, 8], 8, rfl, (s0.free h1), (s2.trans (s3.trans (s4.trans (s5.trans (s6.trans (s7.trans (s8.trans so))))))) _ _ upd_same, by decide, by decide, by decide, by decide, by decide⟩
  · exact ⟨l2, [3, 4, 6, 12], 12, rfl, ((s0.trans s1).free h2), (s3.trans (s4.trans (s5.trans (s6.trans (s7.trans (s8.trans so)))))) _ _ upd_same, by decide, by decide, by decide, by decide, by decide⟩
  · exact ⟨l3, [5, 10, 2], 10, rfl, (((s0.trans s1).trans s2).free h3), (s4.trans (s5.trans (s6.trans (s7.trans (s8.trans so))))) _ _ upd_same, by decide, by decide, by decide, by decide, by decide⟩
  · exact ⟨l4, [7], 7, rfl, ((((s0.trans s1).trans s2).trans s3).free h4), (s5.trans (s6.trans (s7.trans (s8.trans so)))) _ _ upd_same, by decide, by decide, by decide, by decide, by decide⟩
  · exact ⟨l5, [4, 5, 10], 20, rfl, (((((s0.trans s1).trans s2).trans s3).trans s4).free h5), (s6.trans (s7.trans (s8.trans so))) _ _ upd_same, by decide, by decide, by decide, by decide, by decide⟩
  · exact ⟨l6, [1, 2, 12], 12, rfl, ((((((s0.trans s1).trans s2).trans s3).trans s4).trans s5).free h6), (s7.trans (s8.trans so)) _ _ upd_same, by decide, by decide, by decide, by decide, by decide⟩
  · exact ⟨l7, [4, 5, 6], 60, rfl, (((((((s0.trans s1).trans s2).trans s3).trans s4).trans s5).trans s6).free h7), (s8.trans so) _ _ upd_same, by decide, by decide, by decide, by decide, by decide⟩
  · exact ⟨l8, [3, 4, 5], 60, rfl, ((((((((s0.trans s1).trans s2).trans s3).trans s4).trans s5).trans s6).trans s7).free h8), so _ _ upd_same, by decide, by decide, by decide, by decide, by decide⟩

theorem scPairs : FnScope ["_law_row", "_law_gaps", "_law_found", "_law_k", "_law_gap"] ["_law_row"] (defScope sPairs) := ⟨rfl, rfl, rfl, by decide +kernel, rfl, by decide +kernel, by decide +kernel⟩
def spPairs (K : PySem.W.Frag) : Sp := fun vs H Q _ => ∃ (row sc : Addr) (ns : List Int), vs = [.ref row] ∧ Led K H row sc ns ∧ ∀ (x : V) (ps : PR) H', OkC ps → PairsAt K H' x ps → Led K H' row sc ns → Fr [row] H H' → Q x H'
theorem Fr.updNew {rs : List Addr} {H H1 : Hp} {a : Addr} {o : HO} (f : Fr rs H H1) (h : H a = none) : Fr rs H (L2.upd H1 a o) :=
  ⟨fun b u e n => by rw [upd_ne (ne_of_none e h)]; exact f.kp b u e n, fun b e => by
    by_cases z : b = a
    · rw [z, upd_same] at e; cases e
    · rw [upd_ne z] at e; exact f.fr b e⟩
theorem Led.row' {H : Hp} {row sc : Addr} {ns : List Int} (l : Led K H row sc ns) : ∃ xs, H row = some (.lst xs) := let ⟨_, _, _, _, _, _, _, e, _⟩ := l; ⟨_, e⟩
theorem Led.same {H H' : Hp} {row sc : Addr} {ns : List Int} (l : Led K H row sc ns) (s : Same H H') : Led K H' row sc ns :=
  let ⟨i, sd, b, h1, h2, h3, h4, e, q, n⟩ := l; ⟨i, sd, b, h1, h2, h3, h4, s _ _ e, s.seq q, n⟩
theorem Led.q' {H : Hp} {row sc : Addr} {ns : List Int} (l : Led K H row sc ns) : SqL K H sc (ns.map V.int) := let ⟨_, _, _, _, _, _, _, _, q, _⟩ := l; q
/-- a list of the law's own is written -/
theorem Led.put {H : Hp} {row sc a : Addr} {ns : List Int} {o : HO} (l : Led K H row sc ns) (h : a ≠ row) (h2 : Off K a sc (ns.map V.int)) : Led K (L2.upd H a o) row sc ns := by
  obtain ⟨i, sd, b, h1, h2', h3, h4, e, q, n⟩ := l
  exact ⟨i, sd, b, h1, h2', h3, h4, by rw [upd_ne h.symm]; exact e, h2 _ _ q, n⟩
def PairT (H : Hp) (v : V) (p : Nat × Nat) : Prop := ∃ b, v = .ref b ∧ H b = some (.tup [.int (p.1 : Nat), .int (p.2 : Nat)])
theorem PairT.at {H : Hp} {v : V} {p : Nat × Nat} (h : PairT H v p) : PairAt K H v p := by
  obtain ⟨b, rfl, e⟩ := h
  obtain ⟨c, g⟩ := p
  exact .mk (SqT.of e) (.base (.tup e))
theorem nat_of_gap {g : Int} {M : Nat} (h1 : 1 ≤ g) (h : (M : Int) % g = 0) : g.toNat ∣ M := by
  obtain ⟨n, rfl⟩ : ∃ n : Nat, g = n := ⟨g.toNat, by omega⟩
  rw [Int.toNat_natCast]
  refine Nat.dvd_of_mod_eq_zero ?_
  rw [← Int.natCast_emod] at h
  omega
theorem ok_pairs {f1 f2 : Addr} {fd1 fd2 : FuncData} (F : FnP K "_law_pairs" "_law_pairs" sPairs f fd) (T : Tx mg) (G1 : FnOk P w K mg base CX0 1 f1 fd1 ["_law_row", "_law_many"] (spTaken K)) (g1 : mg "_law_taken" = some (.ref f1)) (kp1 : PySem.W.keepIn K (.ref f1) = true) (b1 : Binds K fd1 ["_law_row", "_law_many"] [])
    (G2 : FnOk P w K mg base CX0 2 f2 fd2 ["_law_row", "_law_things"] (spPick K)) (g2 : mg "_law_pick" = some (.ref f2)) (kp2 : PySem.W.keepIn K (.ref f2) = true) (b2 : Binds K fd2 ["_law_row", "_law_things"] []) :
    FnOk P w K mg base CX0 3 f fd ["_law_row"] (spPairs K) := by
  refine okN F scPairs (fun vs H Q E h => ?_) (fun cdv A outer s H vs Q E hr h => ?_)
  · obtain ⟨row, sc, ns, rfl, _⟩ := h
    rfl
  · obtain ⟨row, sc, ns, rfl, led, k⟩ := h
    have hr1 : Room 1 _ := hr.mono (by decide)
    refine ⟨_, pss_cons (ps_par (i := 1) (j := 2) (by rfl) scPairs.nd rfl rfl (by decide) rfl rfl (pa_cons (pe_call G2 hr rfl g2 kp2 b2 .nil pass0 (pa_cons (pv 0) (pa_cons (show PE _ menuE tMenu from pe_menu) pa_nil))) (pa_cons (pe_lst pa_nil) pa_nil)) (by rfl))
      (pss_cons (ps_for PassesOwn.never rfl (pi_range1 rfl T.range (pa_cons (pe_op op_add pe_int (pe_call G1 hr1 rfl g1 kp1 b1 .nil pass0 (pa_cons (pv 0) (pa_cons pe_int pa_nil)))) pa_nil)) (pg_name (i := 3) scPairs.nd rfl (.inl rfl))
        (pss_cons (ps_set (i := 4) scPairs.nd rfl (.inl rfl) (pe_call G2 hr rfl g2 kp2 b2 .nil pass0 (pa_cons (pv 0) (pa_cons (pv 1) pa_nil))))
        (pss_one (ps_expr (pe_bm PySem.F.plainAttrs_list PySem.F.slot_list_append PySem.F.type_list_append mt_append (pv 2) (pa_cons (pe_tup (pa_cons
          (pe_call G2 hr rfl g2 kp2 b2 .nil pass0 (pa_cons (pv 0) (pa_cons (pe_lst (pa_cons pe_int (pa_cons (pv 4) (pa_cons (pe_callB (call_max2 rfl) rfl T.max (by decide +kernel) (pa_cons pe_int (pa_cons (pe_op op_sub (pv 4) pe_int) pa_nil))) (pa_cons (pe_op op_add pe_int (pe_call G1 hr1 rfl g1 kp1 b1 .nil pass0 (pa_cons (pv 0) (pa_cons (pv 4) pa_nil)))) pa_nil))))) pa_nil)))
          (pa_cons (pv 4) pa_nil))) pa_nil))))))
      (pss_one (ps_ret (pe_callTy call_tuple_of rfl T.tuple (by decide +kernel) (pa_cons (pv 2) pa_nil))))), ?_⟩
    obtain ⟨rxs, hrow⟩ := led.row'
    -- _law_gaps, _law_found = (_law_pick(..), [])
    refine ⟨_, rfl, fun lo H1 xs s1 hlo h1 hlen hmenu => ?_⟩
    have nlo : lo ≠ row := (ne_of_none hrow hlo).symm
    refine ⟨row, sc, ns, lo, xs, rfl, led.same s1, SqL.of h1, nlo, (fun z => by rw [z] at hlen; cases hlen), by omega, fun i x H2 hi led2 fr2 => ?_⟩
    obtain ⟨gl, gs, M, rfl, hgl, hgl1, gne, gl4, M0, M60, hgs⟩ := hmenu x (List.mem_of_getElem? hi)
    have ngl : gl ≠ row := (ne_of_none hrow hgl).symm
    have hgl2 : H2 gl = some (.lst (gs.map V.int)) := fr2.kp _ _ hgl1 (fun z => ngl (List.mem_singleton.mp z))
    refine ⟨by decide, fun fl hfl => ⟨_, _, rfl, ?_⟩⟩
    have F2 : Fr [row] H H2 := (Fr.of s1).trans fr2
    have hfl0 : H fl = none := F2.fr _ hfl
    have nfr : fl ≠ row := (ne_of_none hrow hfl0).symm
    have nfg : fl ≠ gl := (ne_of_none hgl2 hfl).symm
    have off : Off K fl sc (ns.map V.int) := off_new led.q' hfl0
    have F3 : Fr [row] H (L2.upd H2 fl (.lst [])) := F2.updNew hfl0
    have hgl3 : L2.upd H2 fl (.lst []) gl = some (.lst (gs.map V.int)) := by rw [upd_ne nfg.symm]; exact hgl2
    -- for _law_k in range(1 + _law_taken(_law_row, 4))
    refine ⟨_, rfl, row, sc, ns, 4, rfl, led2.put nfr off, by decide, by decide, fun r H4 hr4 led4 fr4 => ?_⟩
    refine ⟨_, _, rfl, rfl, _, rfl, by omega, by omega, ?_⟩
    rw [show ((1 : Int) + (r : Int)).toNat = 1 + r by omega]
    have hgl4 : H4 gl = some (.lst (gs.map V.int)) := fr4.kp _ _ hgl3 (fun z => ngl (List.mem_singleton.mp z))
    have hfl4 : H4 fl = some (.lst []) := fr4.kp _ _ upd_same (fun z => nfr (List.mem_singleton.mp z))
    refine for_range (lo := 0) (n := 1 + r) (fun i σ H5 => ∃ v3 v4 vs qs, σ = [some (.ref row), some (.ref gl), some (.ref fl), v3, v4] ∧ H5 fl = some (.lst vs) ∧ Paired (PairT H5) vs qs ∧ qs.length = i ∧ (∀ p ∈ qs, 1 ≤ p.1 ∧ p.1 ≤ p.2 ∧ p.2 ≤ 12 ∧ p.2 ∣ M) ∧ H5 gl = some (.lst (gs.map V.int)) ∧ Led K H5 row sc ns ∧ Fr [row] H H5)
      ⟨_, _, [], [], rfl, hfl4, .nil, rfl, fun p hp => absurd hp (by simp), hgl4, led4, F3.trans fr4⟩ ?_ ?_
    · rintro i' σ H5 hi' ⟨v3, v4, vs, qs, rfl, hfl5, pq, hql, hqs, hgl5, led5, F5⟩
      -- _law_gap = _law_pick(_law_row, _law_gaps)
      refine ⟨_, rfl, _, rfl, row, sc, ns, gl, _, rfl, led5, SqL.of hgl5, ngl, (fun z => gne (List.map_eq_nil_iff.mp z)), by rw [List.length_map]; omega, fun j x H6 hj led6 fr6 => ?_⟩
      obtain ⟨g, hg, rfl⟩ : ∃ g, g ∈ gs ∧ x = V.int g := by
        obtain ⟨g, hg, e⟩ := List.mem_map.mp (List.mem_of_getElem? hj)
        exact ⟨g, hg, e.symm⟩
      obtain ⟨gp, g12, gd⟩ := hgs g hg
      have gdv := nat_of_gap gp gd
      obtain ⟨gn, rfl⟩ : ∃ gn : Nat, g = gn := ⟨g.toNat, by omega⟩
      rw [Int.toNat_natCast] at gdv
      have hfl6 : H6 fl = some (.lst vs) := fr6.kp _ _ hfl5 (fun z => nfr (List.mem_singleton.mp z))
      refine ⟨_, rfl, .inl ⟨rfl, _, SqL.of hfl6⟩, ?_⟩
      refine ⟨_, rfl, _, rfl, _, rfl, _, _, rfl, rfl, _, _, rfl, _, rfl, _, rfl, row, sc, ns, gn, rfl, led6, by omega, by omega, fun r2 H7 hr7 led7 fr7 => ?_⟩
      refine ⟨_, _, rfl, rfl, (by show 4 ≤ sizeLine; decide), fun l8 hl8 => ?_⟩
      obtain ⟨rxs7, hrow7⟩ := led7.row'
      have nl8 : l8 ≠ row := (ne_of_none hrow7 hl8).symm
      refine ⟨row, sc, ns, l8, _, rfl, led7.same (same_new hl8), SqL.of upd_same, nl8, (fun z => by cases z), (by show 4 ≤ 1000000; decide), fun j2 x2 H9 hj2 led9 fr9 => ?_⟩
      obtain ⟨c, hc1, hc2, rfl⟩ : ∃ c : Nat, 1 ≤ c ∧ c ≤ gn ∧ x2 = V.int (c : Nat) := by
        match j2, hj2 with
        | 0, h => exact ⟨1, by omega, by omega, (Option.some.inj h).symm⟩
        | 1, h => exact ⟨gn, by omega, by omega, (Option.some.inj h).symm⟩
        | 2, h =>
          have e := (Option.some.inj h).symm
          by_cases hh : (gn : Int) - 1 > 1
          · rw [if_pos hh] at e
            exact ⟨gn - 1, by omega, by omega, by rw [e]; congr 1; omega⟩
          · rw [if_neg hh] at e
            exact ⟨1, by omega, by omega, e⟩
        | 3, h => exact ⟨1 + r2, by omega, by omega, by rw [← Option.some.inj h]; congr 1⟩
        | n + 4, h => simp at h
      have F59 : Fr [row] H5 H9 := fr6.trans (fr7.trans ((Fr.of (same_new hl8)).trans fr9))
      refine ⟨_, rfl, (by show 2 ≤ sizeLine; decide), fun t ht => ?_⟩
      have hfl9 : H9 fl = some (.lst vs) := F59.kp _ _ hfl5 (fun z => nfr (List.mem_singleton.mp z))
      have nft : fl ≠ t := ne_of_none hfl9 ht
      have hvl : vs.length = i' := by rw [paired_len pq, hql]
      refine ⟨fl, vs, _, rfl, rfl, by rw [upd_ne nft]; exact hfl9, small1000 (by omega), ?_⟩
      have F9 := F5.trans F59
      have ht0 : H t = none := F9.fr _ ht
      obtain ⟨rxs5, hrow5⟩ := led5.row'
      refine ⟨_, _, vs ++ [.ref t], qs ++ [(c, gn)], rfl, upd_same, ?_, by rw [List.length_append, hql] <;> rfl, fun p hp => ?_, ?_, (led9.same (same_new ht)).put nfr off, (F9.updNew ht0).updNew hfl0⟩
      · refine paired_append (paired_map (fun v p ⟨b, e1, e2⟩ => ⟨b, e1, ?_⟩) pq) ⟨t, rfl, by rw [upd_ne nft.symm, upd_same]⟩
        have e9 : H9 b = some (.tup [.int (p.1 : Nat), .int (p.2 : Nat)]) := F59.kp _ _ e2 (fun z => by rw [List.mem_singleton.mp z, hrow5] at e2; cases e2)
        rw [upd_ne (ne_of e9 hfl9 (by intro z; cases z)), upd_ne (ne_of_none e9 ht)]
        exact e9
      · rcases List.mem_append.mp hp with z | z
        · exact hqs p z
        · rw [List.mem_singleton.mp z]
          exact ⟨hc1, hc2, by show gn ≤ 12; omega, gdv⟩
      · have e9 : H9 gl = some (.lst (gs.map V.int)) := F59.kp _ _ hgl5 (fun z => ngl (List.mem_singleton.mp z))
        rw [upd_ne nfg.symm, upd_ne (ne_of_none e9 ht)]
        exact e9
    · rintro σ H5 ⟨v3, v4, vs, qs, rfl, hfl5, pq, hql, hqs, hgl5, led5, F5⟩
      refine ⟨_, rfl, fl, vs, rfl, .inl ⟨SqL.of hfl5, fun l hl => ?_⟩⟩
      have s6 := same_new (o := .tup vs) hl
      refine k (.ref l) qs _ ⟨⟨by omega, by omega, fun p hp => ?_⟩, ?_⟩ (.mk (SqT.of upd_same) (.base (.tup upd_same)) (paired_map (fun v p h => ?_) pq)) (led5.same s6) (F5.trans (Fr.of s6))
      · obtain ⟨q1, q2, q3, q4⟩ := hqs p hp
        exact ⟨q1, q2, q3⟩
      · exact Nat.le_trans (Nat.le_of_dvd M0 (cyc_least fun p hp => (hqs p hp).2.2.2)) M60
      · obtain ⟨b, e1, e2⟩ := h
        exact PairT.at ⟨b, e1, s6 _ _ e2⟩

end
end Fair
end

section
set_option Elab.async false
set_option linter.all false
set_option maxRecDepth 100000
set_option maxHeartbeats 4000000
namespace Fair
open PySem PySem.Spec L2 FM
def spIsFair (K : PySem.W.Frag) : Sp := fun vs H Q _ => ∃ (x v : V) (ps : PR) (m : Nat) (rv : Val), vs = [x, .int (m : Nat), v] ∧ PairsAt K H x ps ∧ OkC ps ∧ 1 ≤ m ∧ m ≤ 4 ∧ ValAt K H v rv ∧ ∀ b H', (b = true ↔ FairP ps m rv) → Same H H' → Q (.bl b) H'
abbrev nIF : List Str := ["_law_pairs_here", "_law_machines", "_law_value", "_law_done", "_law_now", "_law_line", "_law_k", "_law_pair", "_law_one"]
theorem abs_lag (z g : Int) : ((if z < 0 then -z else z) ≥ g) ↔ ¬ (-g < z ∧ z < g) := by
  split <;> omega
section
variable {P : Program} {w : World} {K : PySem.W.Frag} {mg : Str → Option Value} {base : Heap} {f C : Addr} {fd : FuncData}
theorem scIsFair : FnScope nIF ["_law_pairs_here", "_law_machines", "_law_value"] (defScope sIsFair) := ⟨rfl, rfl, rfl, by decide +kernel, rfl, by decide +kernel, by decide +kernel⟩
theorem ok_isFair {fC : Addr} {fdC : FuncData} (F : FnP K "_law_is_fair" "_law_is_fair" sIsFair f fd) (T : Tx mg)
    (GC : FnOk P w K mg base CX0 1 fC fdC ["_law_pairs_here"] (spLCycle K)) (gC : mg "_law_cycle" = some (.ref fC)) (kC : PySem.W.keepIn K (.ref fC) = true) (bC : Binds K fdC ["_law_pairs_here"] []) :
    FnOk P w K mg base CX0 2 f fd ["_law_pairs_here", "_law_machines", "_law_value"] (spIsFair K) := by
  refine okN F scIsFair (fun vs H Q E h => ?_) (fun cdv A outer s H vs Q E hr h => ?_)
  · obtain ⟨x, v, ps, m, rv, rfl, _⟩ := h
    rfl
  · obtain ⟨x, v, ps, m, rv, rfl, hp, ok, h1, h4, hv, k⟩ := h
    refine ⟨_, pss_cons (ps_if (PW.pt (pw_or (pt_not (pt_val (pe_callB call_isi rfl T.isi PyProof.Rows.boot_isinstance (pa_cons (pv 2) (pa_cons (pe_bltn (v := .ty "tuple") rfl T.tuple (by decide +kernel) rfl) pa_nil)))))
          (pw_or1 (pt_cmpR op_ne (pe_callB call_len_seq rfl T.len PySem.boot_len (pa_cons (pv 2) pa_nil)) (pe_call GC hr rfl gC kC bC .nil pass0 (pa_cons (pv 0) pa_nil)) (nomark _))))) (pss_one (ps_ret pe_bl)) pss_nil)
      (pss_cons (ps_setLc (i := 3) (own := [("_law_pair", 7)]) (g := gName 7) rfl scIsFair.nd rfl rfl (sw_true rfl rfl rfl (by decide +kernel)) (pi_tup (pv 0)) (blkOk_by (own := [("_law_pair", 7)]) (N := nIF) (sc := defScope sIsFair) (by decide +kernel))
          (fun _ _ _ _ _ => pg_name (i := 7) scIsFair.nd rfl (Or.inl rfl)) (fun _ _ _ _ _ => pts_nil) (fun _ _ _ _ _ => pe_int))
      (pss_cons (ps_for PassesOwn.never rfl (pi_range1 rfl T.range (pa_cons (pe_callB call_len_seq rfl T.len PySem.boot_len (pa_cons (pv 2) pa_nil)) pa_nil)) (pg_name (i := 4) scIsFair.nd rfl (.inl rfl))
          (pss_cons (ps_if (PW.pt (pw_or (pt_not (pt_val (pe_callB call_isi rfl T.isi PyProof.Rows.boot_isinstance (pa_cons (pe_ix ix_tup (pv 2) (pv 4) (fun _ _ => rfl)) (pa_cons (pe_bltn (v := .ty "tuple") rfl T.tuple (by decide +kernel) rfl) pa_nil)))))
              (pw_or1 (pt_cmpR op_gt (pe_callB call_len_seq rfl T.len PySem.boot_len (pa_cons (pe_ix ix_tup (pv 2) (pv 4) (fun _ _ => rfl)) pa_nil)) (pv 1) (nomark _))))) (pss_one (ps_ret pe_bl)) pss_nil)
          (pss_cons (ps_set (i := 5) scIsFair.nd rfl (.inr rfl) (pe_ix ix_tup (pv 2) (pv 4) (fun _ _ => rfl)))
          (pss_cons (ps_if (pt_cmpR (op_neD hr.units) (pe_lc (own := [("_law_one", 8)]) (g := gName 8) rfl scIsFair.nd (pi_tup (pv 5)) (blkOk_by (own := [("_law_one", 8)]) (N := nIF) (sc := defScope sIsFair) (by decide +kernel))
                (fun _ _ _ _ _ => pg_name (i := 8) scIsFair.nd rfl (Or.inl rfl))
                (fun _ _ _ _ _ => pts_one (PW.pt (pw_or (pt_not (pt_val (pe_callB (show CallR _ (.builtin "isinstance") (rIsi K) from call_isi) rfl T.isi PyProof.Rows.boot_isinstance (pa_cons (pv 8) (pa_cons (pe_bltn (v := .ty "int") rfl T.int PyProof.Rows.boot_int rfl) pa_nil)))))
                  (pw_or (pt_val (pe_callB (show CallR _ (.builtin "isinstance") (rIsi K) from call_isi) rfl T.isi PyProof.Rows.boot_isinstance (pa_cons (pv 8) (pa_cons (pe_bltn (v := .ty "bool") rfl T.bool PyProof.Rows.boot_bool rfl) pa_nil))))
                  (pw_or1 (pt_not (pt_chain op_le op_lt pe_int (pv 8) (pe_callB (show CallR _ (.builtin "len") (rLenK K) from call_len_seq) rfl T.len PySem.boot_len (pa_cons (pv 0) pa_nil)))))))))
                (fun _ _ _ _ _ => pv 8)) (pe_lst pa_nil) (nomark _)) (pss_one (ps_ret pe_bl)) pss_nil)
          (pss_cons (ps_if (pt_cmpR (op_neD hr.units) (pe_lc (own := [("_law_k", 6)]) (g := gName 6) rfl scIsFair.nd (pi_range2 rfl T.range (pa_cons pe_int (pa_cons (pe_callB call_len_seq rfl T.len PySem.boot_len (pa_cons (pv 5) pa_nil)) pa_nil))) (blkOk_by (own := [("_law_k", 6)]) (N := nIF) (sc := defScope sIsFair) (by decide +kernel))
                (fun _ _ _ _ _ => pg_name (i := 6) scIsFair.nd rfl (Or.inl rfl))
                (fun _ _ _ _ _ => pts_one (pt_cmpR op_le (pe_ix (show IxR _ (rIxT K) from ix_tup) (pv 5) (pv 6) (fun _ _ => rfl)) (pe_ix (show IxR _ (rIxT K) from ix_tup) (pv 5) (pe_op op_sub (pv 6) pe_int) (fun _ _ => rfl)) (nomark _)))
                (fun _ _ _ _ _ => pv 6)) (pe_lst pa_nil) (nomark _)) (pss_one (ps_ret pe_bl)) pss_nil)
          (pss_cons (ps_for PassesOwn.never rfl (pi_tup (pv 5)) (pg_name (i := 6) scIsFair.nd rfl (.inl rfl))
            (pss_one (ps_asg (pe_op op_add (pe_ix ix_list (pv 3) (pv 6) (fun _ _ => rfl)) pe_int) (pg_sub (pv 3) (pv 6) set_list (fun _ => rfl)))))
          (pss_one (ps_for PassesOwn.never rfl (pi_range1 rfl T.range (pa_cons (pe_callB call_len_seq rfl T.len PySem.boot_len (pa_cons (pv 0) pa_nil)) pa_nil)) (pg_name (i := 6) scIsFair.nd rfl (.inl rfl))
            (pss_one (ps_if (pt_cmpR op_ge (pe_callB call_abs rfl T.abs (by decide +kernel) (pa_cons (pe_op op_sub (pe_op op_mul (pe_op op_add (pv 4) pe_int) (pe_ix ix_tup (pe_ix ix_tup (pv 0) (pv 6) (fun _ _ => rfl)) pe_int (fun _ _ => rfl)))
                (pe_op op_mul (pe_ix ix_list (pv 3) (pv 6) (fun _ _ => rfl)) (pe_ix ix_tup (pe_ix ix_tup (pv 0) (pv 6) (fun _ _ => rfl)) pe_int (fun _ _ => rfl)))) pa_nil)) (pe_ix ix_tup (pe_ix ix_tup (pv 0) (pv 6) (fun _ _ => rfl)) pe_int (fun _ _ => rfl)) (nomark _)) (pss_one (ps_ret pe_bl)) pss_nil))))))))))
      (pss_one (ps_ret pe_bl)))), ?_⟩
    have hcy := ok.cy
    have hp0 := hp
    cases hp with
    | @mk a xs _ hq ht hpp =>
    have hl := paired_len hpp
    cases hv with
    | no hno =>
      obtain ⟨t, ty, e⟩ := hno
      refine ⟨_, rfl, _, _, _, _, false, rfl, .ty _, ty, kit_ty e, false, rfl, iteT ?_⟩
      exact k false H ⟨fun z => (by cases z), fun ⟨rows, z, _⟩ => (by cases z)⟩ (Same.refl H)
    | @tup va vs rows hvq hvt hrows hvl =>
      have hvlen := paired_len hrows
      refine ⟨_, rfl, _, _, _, _, true, rfl, .ty _, hvt, kit_ty (by decide +kernel), true, rfl, iteF ?_⟩
      refine ⟨_, rfl, va, _, rfl, .inr hvq, _, rfl, _, ps, rfl, hp0, ok, fun H1 s1 => ⟨rfl, _, rfl, ?_⟩⟩
      show if (!decide (V.int (vs.length : Nat) = V.int (cyc ps : Nat))) = true then _ else _
      by_cases hL : vs.length = cyc ps
      case neg =>
        rw [decide_eq_false (fun z => hL (by have := V.int.inj z; omega))]
        refine iteT (k false H1 ⟨fun z => (by cases z), fun ⟨rows', z, e2, _⟩ => ?_⟩ s1)
        cases z
        exact absurd (hvlen.trans e2) hL
      rw [decide_eq_true (by rw [hL])]
      refine iteF ?_
      -- done = [0 for pair in pairs]
      refine ⟨_, rfl, a, rfl, ⟨_, (Gr.of s1).seqT hq⟩, fun D hD => ?_⟩
      have old : ∀ H5, (∀ b, b ≠ D → H5 b = H1 b) → Same H1 H5 := fun H5 e b o hb => by rw [e b (ne_of_none hb hD)]; exact hb
      refine lc_tup (K := K) (a := a) (xs := xs) (fun i H5 => H5 D = some (.lst (dn i fun _ => 0)) ∧ ∀ b, b ≠ D → H5 b = H1 b) ⟨upd_same, fun b hb => upd_ne hb⟩ (fun i H5 _ ⟨_, e⟩ => (Gr.of (s1.trans (old H5 e))).seqT hq) ?_ ?_
      · rintro i y H5 hi ⟨q1, q2⟩
        refine ⟨rfl, _, q1, ?_, ?_, fun b hb => ?_⟩
        · rw [dn_len]
          have := (List.getElem?_eq_some_iff.mp hi).1
          have := ok.l4
          exact small1000 (by omega)
        · rw [upd_same]
          unfold dn
          rw [List.range_succ, List.map_append] <;> rfl
        · rw [upd_ne hb]; exact q2 b hb
      rintro H5 ⟨q1, q2⟩
      have s5 := old H5 q2
      rw [hl] at q1
      -- for now in range(len(value))
      refine ⟨_, rfl, va, vs, rfl, .inr ((Gr.of (s1.trans s5)).seqT hvq), _, rfl, by omega, by omega, ?_⟩
      rw [Int.toNat_natCast]
      refine for_range (lo := 0) (n := vs.length) (fun i σ H4 => ∃ v4 v5 v6, σ = [some (.ref a), some (.int (m : Nat)), some (.ref va), some (.ref D), v4, v5, v6, none, none] ∧ H4 D = some (.lst (dn ps.length (cnt rows i))) ∧ (∀ b o, H1 b = some o → H4 b = some o) ∧
          (∀ r ∈ rows.take i, RowP ps m r) ∧ ∀ now, now < i → ∀ k, k < ps.length → LagP ps rows now k) ⟨_, _, _, rfl, by rw [q1]; exact congrArg (fun l => some (HO.lst l)) (dn_congr fun k _ => by simp [cnt]), s5, fun r hr' => absurd hr' (by simp), fun now h => absurd h (by omega)⟩ ?_ ?_
      · rintro i σ H4 hi ⟨v4, v5, v6, rfl, d4, s4, rows4, lag4⟩
        have e0 : (0 : Int) + (i : Int) = i := Int.zero_add _
        rw [e0]
        have hy : vs[i]? = some vs[i] := List.getElem?_eq_getElem hi
        generalize vs[i] = y at hy
        obtain ⟨r, hr', py⟩ := paired_at hrows hy
        have hrm : r ∈ rows := List.mem_of_getElem? hr'
        have hil : i < cyc ps := by rw [← hL]; exact hi
        have g4 : Gr H H4 := Gr.of (s1.trans s4)
        have notRow : ∀ H', Same H1 H' → ¬ RowP ps m r → Q (.bl false) H' := fun H' s' hn => k false H' ⟨fun z => (by cases z), fun ⟨rows', z, _, hh, _⟩ => absurd (by cases z; exact hh r hrm) hn⟩ (s1.trans s')
        have notLag : ∀ H' q, Same H1 H' → q < ps.length → ¬ LagP ps rows i q → Q (.bl false) H' := fun H' q s' hq' hn => k false H' ⟨fun z => (by cases z), fun ⟨rows', z, _, _, hh⟩ => absurd (by cases z; exact hh i hil q hq') hn⟩ (s1.trans s')
        cases py with
        | no hno =>
          obtain ⟨t, ty, e⟩ := g4.noTup hno
          refine ⟨_, rfl, _, rfl, va, _, _, y, rfl, rfl, g4.seqT hvq, atI_nat hy, _, _, _, _, false, rfl, .ty _, ty, kit_ty e, false, rfl, iteT ?_⟩
          exact notRow H4 s4 fun ⟨⟨ks, z, _⟩, _⟩ => (by cases z)
        | @tup rb es rq rt rat rl =>
          have hes64 : es.length ≤ 64 := rl
          refine ⟨_, rfl, _, rfl, va, _, _, _, rfl, rfl, g4.seqT hvq, atI_nat hy, _, _, _, _, true, rfl, .ty _, g4.ty rt, kit_ty (by decide +kernel), true, rfl, iteF ?_⟩
          refine ⟨_, rfl, _, rfl, va, _, _, _, rfl, rfl, g4.seqT hvq, atI_nat hy, rb, es, rfl, .inr (g4.seqT rq), _, rfl, _, _, rfl, rfl, _, rfl, ?_⟩
          show if decide ((es.length : Int) > (m : Int)) = true then _ else _
          by_cases hem : es.length > m
          · rw [decide_eq_true (by omega)]
            exact iteT (notRow H4 s4 fun z => by have : es.length ≤ m := z.2; omega)
          rw [decide_eq_false (by omega)]
          refine iteF ?_
          refine ⟨_, rfl, _, rfl, va, _, _, _, rfl, rfl, g4.seqT hvq, atI_nat hy, ?_⟩
          -- the entries that are no index
          refine ⟨_, rfl, rb, rfl, ⟨_, g4.seqT rq⟩, fun D1 hD1 => ?_⟩
          have old1 : ∀ H6, (∀ b, b ≠ D1 → H6 b = H4 b) → Same H4 H6 := fun H6 e b o hb => by rw [e b (ne_of_none hb hD1)]; exact hb
          refine lc_tup (K := K) (a := rb) (xs := es) (fun j H6 => ∃ bad, H6 D1 = some (.lst bad) ∧ (∀ e ∈ bad, At e) ∧ bad.length ≤ j ∧ (bad = [] ↔ ∀ e ∈ es.take j, inB e 0 ((ps.length : Int) - 1) = true) ∧ ∀ b, b ≠ D1 → H6 b = H4 b)
            ⟨[], upd_same, fun e h => absurd h (by simp), Nat.le_refl _, ⟨fun _ e h => absurd h (by simp), fun _ => rfl⟩, fun b hb => upd_ne hb⟩ (fun j H6 _ ⟨_, _, _, _, _, e⟩ => (g4.trans (Gr.of (old1 H6 e))).seqT rq) ?_ ?_
          · rintro j e H6 hj ⟨bad, b1, b2, b3, b4, b5⟩
            have hat := rat e (List.mem_of_getElem? hj)
            have hjl := (List.getElem?_eq_some_iff.mp hj).1
            have et : es.take (j + 1) = es.take j ++ [e] := by rw [List.take_add_one, hj] <;> rfl
            have keep : inB e 0 ((ps.length : Int) - 1) = false → ∃ acc, H6 D1 = some (.lst acc) ∧ acc.length < sizeLine ∧ ∃ bad, L2.upd H6 D1 (.lst (acc ++ [e])) D1 = some (.lst bad) ∧ (∀ e ∈ bad, At e) ∧ bad.length ≤ j + 1 ∧ (bad = [] ↔ ∀ e ∈ es.take (j + 1), inB e 0 ((ps.length : Int) - 1) = true) ∧ ∀ b, b ≠ D1 → L2.upd H6 D1 (.lst (acc ++ [e])) b = H4 b := fun hf => by
              refine ⟨bad, b1, small1000 (by omega), bad ++ [e], upd_same, fun e' he' => ?_, by rw [List.length_append, List.length_singleton]; omega, ⟨fun z => ?_, fun z => ?_⟩, fun b hb => by rw [upd_ne hb]; exact b5 b hb⟩
              · rcases List.mem_append.mp he' with z | z
                · exact b2 e' z
                · rw [List.mem_singleton.mp z]; exact hat
              · simp at z
              · have := z e (by rw [et]; simp)
                rw [hf] at this
                cases this
            have drop : inB e 0 ((ps.length : Int) - 1) = true → ∃ bad, H6 D1 = some (.lst bad) ∧ (∀ e ∈ bad, At e) ∧ bad.length ≤ j + 1 ∧ (bad = [] ↔ ∀ e ∈ es.take (j + 1), inB e 0 ((ps.length : Int) - 1) = true) ∧ ∀ b, b ≠ D1 → H6 b = H4 b := fun hf => by
              refine ⟨bad, b1, b2, by omega, ?_, b5⟩
              rw [b4, et]
              constructor
              · intro h e' he'
                rcases List.mem_append.mp he' with z | z
                · exact h e' z
                · rw [List.mem_singleton.mp z]; exact hf
              · intro h e' he'
                exact h e' (List.mem_append_left _ he')
            cases e with
            | int z =>
              refine ⟨rfl, _, rfl, _, _, _, _, true, rfl, .ty _, .base (.int z), kit_ty (by decide +kernel), true, rfl, iteF ?_⟩
              refine ⟨_, rfl, _, _, _, _, false, rfl, .ty _, .base (.int z), kit_ty (by decide +kernel), false, rfl, iteF ?_⟩
              refine ⟨_, rfl, _, _, rfl, rfl, _, rfl, ?_⟩
              have hin : inB (.int z) 0 ((ps.length : Int) - 1) = (decide (0 ≤ z) && decide (z ≤ (ps.length : Int) - 1)) := rfl
              show if decide (0 ≤ z) = true then _ else _
              by_cases hz : 0 ≤ z
              · rw [decide_eq_true hz]
                refine iteT ⟨_, rfl, a, xs, rfl, .inr ((g4.trans (Gr.of (old1 H6 b5))).seqT hq), _, _, rfl, rfl, _, rfl, ?_⟩
                show if (!decide (z < (xs.length : Int))) = true then _ else _
                rw [hl]
                by_cases hz2 : z < (ps.length : Int)
                · rw [decide_eq_true hz2]
                  refine iteF (drop ?_)
                  rw [hin, decide_eq_true hz, decide_eq_true (by omega)] <;> rfl
                · rw [decide_eq_false hz2]
                  refine iteT ⟨_, rfl, keep ?_⟩
                  rw [hin, decide_eq_true hz, decide_eq_false (by omega)] <;> rfl
              · rw [decide_eq_false hz]
                refine iteF ⟨_, rfl, ?_⟩
                refine iteT ⟨_, rfl, keep ?_⟩
                rw [hin, decide_eq_false hz] <;> rfl
            | bl b =>
              refine ⟨rfl, _, rfl, _, _, _, _, true, rfl, .ty _, .base (.bl b), kit_ty (by decide +kernel), true, rfl, iteF ?_⟩
              refine ⟨_, rfl, _, _, _, _, true, rfl, .ty _, .base (.bl b), kit_ty (by decide +kernel), true, rfl, iteT ?_⟩
              exact iteT ⟨_, rfl, keep rfl⟩
            | str z =>
              refine ⟨rfl, _, rfl, _, _, _, _, false, rfl, .ty _, .base (.str z), kit_ty (by decide +kernel), false, rfl, iteT ?_⟩
              exact iteT ⟨_, rfl, keep rfl⟩
            | _ => exact hat.elim
          rintro H6 ⟨bad, b1, b2, b3, b4, b5⟩
          rw [List.take_length] at b4
          refine ⟨by decide, fun l hl' => ?_⟩
          have s6 := old1 H6 b5
          have s7 : Same H4 (L2.upd H6 l (.lst [])) := s6.trans (same_new hl')
          obtain ⟨ds, k1, k2, k3, k4⟩ := flat_data (K := K) (H := L2.upd H6 l (.lst [])) b2
          refine ⟨.list ds, .list [], .lst (SqL.of (same_new hl' _ _ b1)) k1, .lst (SqL.of upd_same) .nil, shaped_list k2 k3, shaped_list (by simp only [PyData.canLayAll0]) (by simp only [PyData.depthAll]; omega), _, rfl, ?_⟩
          rw [eqv_nil, k4]
          have s17 : Same H1 (L2.upd H6 l (.lst [])) := fun b o e => s7 b o (s4 b o e)
          by_cases hbad : bad = []
          case neg =>
            rw [show bad.isEmpty = false from by cases bad with | nil => exact absurd rfl hbad | cons _ _ => rfl]
            refine iteT (notRow _ s17 fun z => ?_)
            obtain ⟨⟨ks, e, _, hk⟩, _⟩ := z
            cases e
            refine hbad (b4.mpr fun e' he' => ?_)
            obtain ⟨q, hq', rfl⟩ := List.mem_map.mp he'
            exact inB_iff.mpr ⟨q, rfl, hk q hq'⟩
          rw [hbad]
          refine iteF ?_
          obtain ⟨ks, rfl, kn⟩ := ints_of_all (b4.mp hbad)
          rw [List.length_map] at hes64 hem
          generalize hH7 : L2.upd H6 l (.lst []) = H7 at s7 s17
          clear hH7
          have g7 : Gr H H7 := Gr.of (s1.trans s17)
          have d7 : H7 D = some (.lst (dn ps.length (cnt rows i))) := s7 _ _ d4
          -- the places that do not rise
          refine ⟨_, rfl, rb, _, rfl, .inr (g7.seqT rq), 1, _, rfl, ⟨by decide, by decide, by rw [List.length_map]; omega, by rw [List.length_map]; omega⟩, fun D2 hD2 => ?_⟩
          have old2 : ∀ H6, (∀ b, b ≠ D2 → H6 b = H7 b) → Same H7 H6 := fun H6 e b o hb => by rw [e b (ne_of_none hb hD2)]; exact hb
          have en : (((((ks.map fun k => V.int (k : Nat)).length : Nat) : Int) - 1)).toNat = ks.length - 1 := by rw [List.length_map]; omega
          rw [en]
          refine lc_range (lo := 1) (n := ks.length - 1) (fun j H8 => ∃ bad, H8 D2 = some (.lst bad) ∧ (∀ e ∈ bad, At e) ∧ bad.length ≤ j ∧ (bad = [] ↔ ∀ q, q < j → ks.getD q 0 < ks.getD (q + 1) 0) ∧ ∀ b, b ≠ D2 → H8 b = H7 b)
            ⟨[], upd_same, fun e h => absurd h (by simp), Nat.le_refl _, ⟨fun _ q h => absurd h (by omega), fun _ => rfl⟩, fun b hb => upd_ne hb⟩ ?_ ?_
          · rintro j H8 hj ⟨bad, b1, b2, b3, b4, b5⟩
            have g8 := g7.trans (Gr.of (old2 H8 b5))
            refine ⟨rfl, _, rfl, _, rfl, rb, _, _, V.int (ks.getD (j + 1) 0 : Nat), rfl, rfl, g8.seqT rq, ?_, _, rfl, _, rfl, _, _, rfl, rfl, rb, _, _, V.int (ks.getD j 0 : Nat), rfl, rfl, g8.seqT rq, ?_, _, _, rfl, rfl, _, rfl, ?_⟩
            · rw [show (1 : Int) + (j : Int) = ((j + 1 : Nat) : Int) by omega]; exact atI_nat (intGet ks (j + 1) (by omega))
            · rw [show (1 : Int) + (j : Int) - 1 = ((j : Nat) : Int) by omega]; exact atI_nat (intGet ks j (by omega))
            · show if decide (((ks.getD (j + 1) 0 : Nat) : Int) ≤ ((ks.getD j 0 : Nat) : Int)) = true then _ else _
              by_cases hlt : ks.getD j 0 < ks.getD (j + 1) 0
              · rw [decide_eq_false (by omega)]
                refine iteF ⟨bad, b1, b2, by omega, ?_, b5⟩
                rw [b4]
                constructor
                · intro h q hq'
                  by_cases e : q = j
                  · rw [e]; exact hlt
                  · exact h q (by omega)
                · intro h q hq'
                  exact h q (by omega)
              · rw [decide_eq_true (by omega)]
                refine iteT ⟨_, rfl, bad, b1, small1000 (by omega), bad ++ [V.int (1 + (j : Int))], upd_same, fun e' he' => ?_, by rw [List.length_append, List.length_singleton]; omega, ⟨fun z => ?_, fun z => ?_⟩, fun b hb => by rw [upd_ne hb]; exact b5 b hb⟩
                · rcases List.mem_append.mp he' with z | z
                  · exact b2 e' z
                  · rw [List.mem_singleton.mp z]; trivial
                · simp at z
                · exact absurd (z j (by omega)) hlt
          rintro H8 ⟨bad2, c1, c2, c3, c4, c5⟩
          refine ⟨by decide, fun l2 hl2 => ?_⟩
          have s8 := old2 H8 c5
          have s9 : Same H7 (L2.upd H8 l2 (.lst [])) := s8.trans (same_new hl2)
          obtain ⟨ds2, m1, m2, m3, m4⟩ := flat_data (K := K) (H := L2.upd H8 l2 (.lst [])) c2
          refine ⟨.list ds2, .list [], .lst (SqL.of (same_new hl2 _ _ c1)) m1, .lst (SqL.of upd_same) .nil, shaped_list m2 m3, shaped_list (by simp only [PyData.canLayAll0]) (by simp only [PyData.depthAll]; omega), _, rfl, ?_⟩
          rw [eqv_nil, m4]
          have s19 : Same H1 (L2.upd H8 l2 (.lst [])) := s17.trans s9
          by_cases hbad2 : bad2 = []
          case neg =>
            rw [show bad2.isEmpty = false from by cases bad2 with | nil => exact absurd rfl hbad2 | cons _ _ => rfl]
            refine iteT (notRow _ s19 fun z => ?_)
            obtain ⟨⟨ks', e, hp', _⟩, _⟩ := z
            have e2 : ks = ks' := by
              have := Option.some.inj e
              refine List.map_inj_right ?_ |>.mp this
              intro x y h
              have := V.int.inj h
              omega
            subst e2
            exact hbad2 (c4.mpr fun q hq' => step_of_pairwise hp' (by omega))
          rw [hbad2]
          refine iteF ?_
          have kp : ks.Pairwise (· < ·) := pairwise_of_step fun q hq' => c4.mp hbad2 q (by omega)
          have hrow : RowP ps m (some (ks.map fun k => V.int (k : Nat))) := ⟨⟨ks, rfl, kp, kn⟩, by show (ks.map fun k => V.int (k : Nat)).length ≤ m; rw [List.length_map]; omega⟩
          generalize hH9 : L2.upd H8 l2 (.lst []) = H9 at s9 s19
          clear hH9
          have d9 : H9 D = some (.lst (dn ps.length (cnt rows i))) := s9 _ _ d7
          -- for _law_k in _law_line
          refine ⟨_, rfl, rb, rfl, ⟨_, (Gr.of (s1.trans s19)).seqT rq⟩, for_tup (K := K) (a := rb) (xs := ks.map fun k => V.int (k : Nat)) (fun j σ H7 => ∃ v6, σ = [some (.ref a), some (.int (m : Nat)), some (.ref va), some (.ref D), some (.int (i : Nat)), some (.ref rb), v6, none, none] ∧
            H7 D = some (.lst (dn ps.length fun k => cnt rows i k + (ks.take j).count k)) ∧ ∀ b o, H1 b = some o → H7 b = some o) ⟨_, rfl, ?_, s19⟩ (fun j σ H7 _ ⟨_, _, _, s⟩ => (Gr.of (s1.trans s)).seqT rq) ?_ ?_⟩
          · rw [d9]
            exact congrArg (fun l => some (HO.lst l)) (dn_congr fun k _ => by simp)
          · rintro j z σ H7 hj ⟨w6, rfl, d7, s7⟩
            obtain ⟨k', hk', rfl⟩ := nV_get (l := ks) hj
            have hkn := kn k' (List.mem_of_getElem? hk')
            refine ⟨_, rfl, _, rfl, D, _, _, _, rfl, rfl, SqL.of d7, atI_nat (dn_get hkn), _, _, rfl, rfl, _, rfl, _, rfl, D, _, _, k', rfl, rfl, d7, ?_, ?_⟩
            · rw [dn_len]; exact ixN_nat hkn
            · refine ⟨_, rfl, ?_, fun b o e => ?_⟩
              · rw [upd_same]
                refine congrArg (fun l => some (HO.lst l)) ?_
                show (dn ps.length fun k => cnt rows i k + (ks.take j).count k).set k' (V.int (((cnt rows i k' + (ks.take j).count k' : Nat) : Int) + 1)) = _
                rw [show ((cnt rows i k' + (ks.take j).count k' : Nat) : Int) + 1 = ((cnt rows i k' + (ks.take j).count k' + 1 : Nat) : Int) by omega, dn_set hkn]
                refine dn_congr fun q hq' => ?_
                rw [List.take_add_one, hk', List.count_append]
                by_cases e : q = k'
                · subst e; simp; omega
                · have : List.count q [k'] = 0 := List.count_eq_zero.mpr (by simp [e])
                  simp only [if_neg e, Option.toList]
                  omega
              · rw [upd_ne (ne_of_none e hD)]; exact s7 b o e
          · rintro σ H7 ⟨w6, rfl, d7, s7⟩
            rw [List.length_map, List.take_length] at d7
            have d8 : H7 D = some (.lst (dn ps.length (cnt rows (i + 1)))) := by
              rw [d7]
              refine congrArg (fun l => some (HO.lst l)) (dn_congr fun q _ => ?_)
              rw [cnt_succ hr']
              show _ = cnt rows i q + (nV ks).count (V.int (q : Nat))
              rw [nV_count]
            have hrows1 : ∀ r ∈ rows.take (i + 1), RowP ps m r := fun r' hr2 => by
              rw [List.take_add_one, hr'] at hr2
              rcases List.mem_append.mp hr2 with z | z
              · exact rows4 r' z
              · have : r' = some (ks.map fun k => V.int (k : Nat)) := by simpa using z
                rw [this]; exact hrow
            have hcnt : ∀ q, cnt rows (i + 1) q ≤ 64 * 61 := fun q => by
              have e : cnt rows (i + 1) q = cnt (rows.take (i + 1)) (i + 1) q := by unfold cnt; rw [List.take_take, Nat.min_self]
              rw [e]
              exact Nat.le_trans (cntR_le (fun r' hr2 => Nat.le_trans (hrows1 r' hr2).2 (by omega)) (i + 1)) (Nat.mul_le_mul_left _ (by omega))
            -- for _law_k in range(len(pairs))
            refine ⟨_, rfl, a, xs, rfl, .inr ((Gr.of (s1.trans s7)).seqT hq), _, rfl, by have := ok.l4; omega, by have := ok.l4; omega, ?_⟩
            rw [hl, Int.toNat_natCast]
            refine for_range (lo := 0) (n := ps.length) (fun j σ H8 => ∃ v6, σ = [some (.ref a), some (.int (m : Nat)), some (.ref va), some (.ref D), some (.int (i : Nat)), some (.ref rb), v6, none, none] ∧ H8 = H7 ∧ ∀ k, k < j → LagP ps rows i k) ⟨_, rfl, rfl, fun k h => absurd h (by omega)⟩ ?_ ?_
            · rintro j σ H8 hj ⟨w6, rfl, rfl, lag8⟩
              have e0 : (0 : Int) + (j : Int) = j := Int.zero_add _
              rw [e0]
              obtain ⟨z, hz, py⟩ := paired_atR hpp (List.getElem?_eq_getElem hj)
              obtain ⟨cc1, cc2⟩ := pc_of (List.getElem?_eq_getElem hj)
              have okp := ok.ok _ (List.getElem_mem hj)
              have hc8 := hcnt j
              generalize ps[j] = pr at py cc1 cc2 okp
              have g8 : Gr H H8 := Gr.of (s1.trans s7)
              cases py with
              | @mk b2 cc gg hb2 hbt2 =>
                simp only at okp cc1 cc2
                have hb2' := g8.seqT hb2
                have hq8 := g8.seqT hq
                refine ⟨_, rfl, _, _, rfl, rfl, _, rfl, _, rfl, a, _, _, _, rfl, rfl, hq8, atI_nat hz, b2, _, _, _, rfl, rfl, hb2', rfl, _, _, rfl, rfl, .inl ⟨by omega, by omega⟩, ?_⟩
                refine ⟨_, rfl, _, rfl, D, _, _, _, rfl, rfl, SqL.of d8, atI_nat (dn_get hj), _, rfl, _, rfl, a, _, _, _, rfl, rfl, hq8, atI_nat hz, b2, _, _, _, rfl, rfl, hb2', rfl, _, _, rfl, rfl, .inl ⟨by omega, by omega⟩, _, _, rfl, rfl, _, rfl, ?_⟩
                refine ⟨_, rfl, _, rfl, a, _, _, _, rfl, rfl, hq8, atI_nat hz, b2, _, _, _, rfl, rfl, hb2', rfl, _, _, rfl, rfl, _, rfl, ?_⟩
                have hiff : ((if ((i : Int) + 1) * ((cc : Nat) : Int) - ((cnt rows (i + 1) j : Nat) : Int) * ((gg : Nat) : Int) < 0 then -(((i : Int) + 1) * ((cc : Nat) : Int) - ((cnt rows (i + 1) j : Nat) : Int) * ((gg : Nat) : Int)) else ((i : Int) + 1) * ((cc : Nat) : Int) - ((cnt rows (i + 1) j : Nat) : Int) * ((gg : Nat) : Int)) ≥ ((gg : Nat) : Int)) ↔ ¬ LagP ps rows i j := by
                  rw [abs_lag]
                  unfold LagP
                  rw [cc1, cc2]
                show if decide ((if ((i : Int) + 1) * ((cc : Nat) : Int) - ((cnt rows (i + 1) j : Nat) : Int) * ((gg : Nat) : Int) < 0 then -(((i : Int) + 1) * ((cc : Nat) : Int) - ((cnt rows (i + 1) j : Nat) : Int) * ((gg : Nat) : Int)) else ((i : Int) + 1) * ((cc : Nat) : Int) - ((cnt rows (i + 1) j : Nat) : Int) * ((gg : Nat) : Int)) ≥ ((gg : Nat) : Int)) = true then _ else _
                by_cases hlag : LagP ps rows i j
                · rw [decide_eq_false (fun z => hiff.mp z hlag)]
                  refine iteF ⟨_, rfl, rfl, fun k' hk' => ?_⟩
                  by_cases e : k' = j
                  · rw [e]; exact hlag
                  · exact lag8 k' (by omega)
                · rw [decide_eq_true (hiff.mpr hlag)]
                  exact iteT (notLag H8 j s7 hj hlag)
            · rintro σ H8 ⟨w6, rfl, rfl, lag8⟩
              refine ⟨_, _, _, rfl, d8, s7, hrows1, fun now hn k' hk' => ?_⟩
              by_cases e : now = i
              · rw [e]; exact lag8 k' hk'
              · exact lag4 now (by omega) k' hk'
      · rintro σ H4 ⟨v4, v5, v6, rfl, d4, s4, rows4, lag4⟩
        refine k true H4 ⟨fun _ => ⟨rows, rfl, by rw [← hvlen]; exact hL, fun r hr' => rows4 r (by rw [hvlen, List.take_length]; exact hr'), fun now hn => lag4 now (by rw [hL]; exact hn)⟩, fun _ => rfl⟩ (s1.trans s4)
end
end Fair
end

section
set_option Elab.async false
set_option linter.all false
set_option maxRecDepth 100000
set_option maxHeartbeats 4000000
/-! The law: frames, good values. -/
namespace Fair
open PySem PySem.Spec L2 FM
/-! ### frames of the law -/
structure Lf (H H' : Hp) : Prop where
  kp : ∀ b o, H b = some o → (∀ xs, o ≠ .lst xs) → (∀ ps, o ≠ .tbl ps) → H' b = some o
  ls : ∀ b xs, H b = some (.lst xs) → ∃ ys, H' b = some (.lst ys)
  tb : ∀ b, GxR.TabG H b → GxR.TabG H' b
  fr : ∀ b, H' b = none → H b = none
theorem Lf.refl (H : Hp) : Lf H H := ⟨fun _ _ e _ _ => e, fun _ xs e => ⟨xs, e⟩, fun _ e => e, fun _ e => e⟩
theorem Lf.trans {H H1 H2 : Hp} (a : Lf H H1) (b : Lf H1 H2) : Lf H H2 :=
  ⟨fun c o e n m => b.kp c o (a.kp c o e n m) n m, fun c xs e => let ⟨ys, e2⟩ := a.ls c xs e; b.ls c ys e2, fun c e => b.tb c (a.tb c e), fun c e => a.fr c (b.fr c e)⟩
theorem Lf.of {H H' : Hp} (g : Gr H H') : Lf H H' := ⟨fun c o e _ m => g.kp c o e m, fun c xs e => ⟨xs, g.kp c _ e fun ps z => by cases z⟩, g.tb, g.fr⟩
/-- a list is written -/
theorem Lf.put {H : Hp} {a : Addr} {xs ys : List V} (h : H a = some (.lst xs)) : Lf H (upd H a (.lst ys)) :=
  ⟨fun c o e n _ => by rw [upd_ne (fun z => by rw [z, h] at e; exact n _ (Option.some.inj e).symm)]; exact e, fun c zs e => by
    by_cases z : c = a
    · exact ⟨ys, by rw [z, upd_same]⟩
    · exact ⟨zs, by rw [upd_ne z]; exact e⟩, fun c ⟨ps, e, t⟩ => ⟨ps, by rw [upd_ne (fun z => by rw [z, h] at e; cases e)]; exact e, t⟩, fun c e => by
    by_cases z : c = a
    · rw [z, upd_same] at e; cases e
    · rw [upd_ne z] at e; exact e⟩
theorem Lf.frow {H H' : Hp} {row : Addr} {xs ys : List V} (f : Fr [row] H H') (h : H row = some (.lst xs)) (h' : H' row = some (.lst ys)) : Lf H H' := by
  have nr : ∀ b o, H b = some o → b ≠ row → H' b = some o := fun b o e n => f.kp b o e (fun z => n (List.mem_singleton.mp z))
  refine ⟨fun c o e n _ => nr c o e (fun z => by rw [z, h] at e; exact n _ (Option.some.inj e).symm), fun c zs e => ?_, fun c ⟨ps, e, t⟩ => ⟨ps, nr c _ e (fun z => by rw [z, h] at e; cases e), t⟩, f.fr⟩
  by_cases z : c = row
  · exact ⟨ys, by rw [z]; exact h'⟩
  · exact ⟨zs, nr c _ e z⟩
theorem Lf.seqT {K : PySem.W.Frag} {H H' : Hp} {a : Addr} {xs : List V} (e : Lf H H') (h : SqT K H a xs) : SqT K H' a xs := by
  rcases h with (h | ⟨o, h⟩) | h
  · exact .inl (.inl (e.kp _ _ h (fun ps z => by cases z) fun ps z => by cases z))
  · exact .inl (.inr ⟨o, e.kp _ _ h (fun ps z => by cases z) fun ps z => by cases z⟩)
  · exact .inr h
theorem Lf.ty {K : PySem.W.Frag} {H H' : Hp} {x : V} {t : Value} (e : Lf H H') (h : TyX K H x t) : TyX K H' x t := by
  have k := e.kp
  cases h with
  | base h =>
    refine .base ?_
    cases h with
    | non => exact .non
    | bl x => exact .bl x
    | int i => exact .int i
    | str x => exact .str x
    | flt x => exact .flt x
    | lst e' => exact .lst (e.ls _ _ e').choose_spec
    | frz e => exact .frz (k _ _ e (fun ps z => by cases z) fun ps z => by cases z)
    | tup e => exact .tup (k _ _ e (fun ps z => by cases z) fun ps z => by cases z)
    | dK e => exact .dK (k _ _ e (fun ps z => by cases z) fun ps z => by cases z)
    | dT e => exact .dT (k _ _ e (fun ps z => by cases z) fun ps z => by cases z)
    | ins e cl ha hn htk hm => exact .ins (k _ _ e (fun ps z => by cases z) fun ps z => by cases z) cl ha hn htk hm
  | byt b => exact .byt b
  | set e => exact .set (k _ _ e (fun ps z => by cases z) fun ps z => by cases z)
  | kList e c => exact .kList e c
  | kTuple e c => exact .kTuple e c
  | kDict e c => exact .kDict e c
  | fTuple e => exact .fTuple (k _ _ e (fun ps z => by cases z) fun ps z => by cases z)
  | fDict e => exact .fDict (k _ _ e (fun ps z => by cases z) fun ps z => by cases z)
section
variable {K : PySem.W.Frag} {H H' : Hp}
theorem Lf.noTup (g : Lf H H') {x : V} (h : NoTup K H x) : NoTup K H' x := let ⟨t, a, b⟩ := h; ⟨t, g.ty a, b⟩
theorem Lf.row (g : Lf H H') {x : V} {r : Row} (h : RowAt K H x r) : RowAt K H' x r := by
  cases h with
  | tup h t a l => exact .tup (g.seqT h) (g.ty t) a l
  | no h => exact .no (g.noTup h)
theorem Lf.val (g : Lf H H') {x : V} {r : Val} (h : ValAt K H x r) : ValAt K H' x r := by
  cases h with
  | tup h t r l => exact .tup (g.seqT h) (g.ty t) (paired_map (fun _ _ q => g.row q) r) l
  | no h => exact .no (g.noTup h)
theorem Lf.pair (g : Lf H H') {x : V} {r : Nat × Nat} (h : PairAt K H x r) : PairAt K H' x r := by
  cases h with
  | mk h t => exact .mk (g.seqT h) (g.ty t)
theorem Lf.pairs (g : Lf H H') {x : V} {r : PR} (h : PairsAt K H x r) : PairsAt K H' x r := by
  cases h with
  | mk h t p => exact .mk (g.seqT h) (g.ty t) (paired_map (fun _ _ q => g.pair q) p)
end
def GoodRow (K : PySem.W.Frag) (H : Hp) (v : V) : Prop := ∃ r, RowAt K H v r
def GoodVal (K : PySem.W.Frag) (H : Hp) (v : V) : Prop := ∃ r, ValAt K H v r
theorem GoodRow.lf {K : PySem.W.Frag} {H H' : Hp} {v : V} (h : GoodRow K H v) (g : Lf H H') : GoodRow K H' v := let ⟨r, e⟩ := h; ⟨r, g.row e⟩
theorem GoodVal.lf {K : PySem.W.Frag} {H H' : Hp} {v : V} (h : GoodVal K H v) (g : Lf H H') : GoodVal K H' v := let ⟨r, e⟩ := h; ⟨r, g.val e⟩
theorem rows_of {K : PySem.W.Frag} {H : Hp} : ∀ {xs : List V}, (∀ x ∈ xs, GoodRow K H x) → ∃ rs, Paired (RowAt K H) xs rs
  | [], _ => ⟨[], .nil⟩
  | x :: xs, h => by
    obtain ⟨r, e⟩ := h x List.mem_cons_self
    obtain ⟨rs, t⟩ := rows_of fun y hy => h y (List.mem_cons_of_mem _ hy)
    exact ⟨r :: rs, .cons e t⟩
theorem goodVal_tup {K : PySem.W.Frag} {H : Hp} {a : Addr} {xs : List V} (h : H a = some (.tup xs)) (hr : ∀ x ∈ xs, GoodRow K H x) (hl : xs.length ≤ 200) : GoodVal K H (.ref a) := by
  obtain ⟨rs, p⟩ := rows_of hr
  exact ⟨some rs, .tup (SqT.of h) (.base (.tup h)) p hl⟩
theorem goodRow_tup {K : PySem.W.Frag} {H : Hp} {a : Addr} {xs : List V} (h : H a = some (.tup xs)) (hr : ∀ x ∈ xs, At x) (hl : xs.length ≤ 64) : GoodRow K H (.ref a) := ⟨some xs, .tup (SqT.of h) (.base (.tup h)) hr hl⟩
theorem good_lst {K : PySem.W.Frag} {H : Hp} {a : Addr} {xs : List V} (h : H a = some (.lst xs)) : NoTup K H (.ref a) := ⟨"list", .base (.lst h), by decide +kernel⟩
theorem good_non {K : PySem.W.Frag} {H : Hp} : NoTup K H .non := ⟨"NoneType", .base .non, by decide +kernel⟩
theorem good_int {K : PySem.W.Frag} {H : Hp} (i : Int) : NoTup K H (.int i) := ⟨"int", .base (.int i), by decide +kernel⟩
theorem good_dict {K : PySem.W.Frag} {H : Hp} {a : Addr} {kvs : List (Key × V)} (h : H a = some (.dK kvs)) : NoTup K H (.ref a) := ⟨"dict", .base (.dK h), by decide +kernel⟩
/-! ### slices, sums of tuples, in one way -/
def rSlB : V → Option Int → Option Int → Hp → VK → Prop := fun x lo hi H Q => ∃ a xs, x = .ref a ∧ H a = some (.tup xs) ∧ ∀ s H', Same H H' → H' s = some (.tup (cutV xs lo hi)) → Q (.ref s) H'
theorem sl_cut {X : Cx} : SlR X rSlB := by
  intro pins s σ H x v vl vu lo hi sl Q I rx hs pl pu h
  obtain ⟨a, xs, rfl, hx, k⟩ := h
  refine sl_tupA pins s σ H _ v vl vu lo hi sl Q I rx hs pl pu ⟨a, xs, rfl, SqT.of hx, fun hw => ?_, fun _ p hp => k p _ (same_new hp) upd_same⟩
  refine k a H (Same.refl H) ?_
  rw [hx]
  unfold cutV
  rw [hw.1, hw.2]
  simp
def rCatB : R2 := fun x y H Q => ∃ a b xs ys, x = .ref a ∧ y = .ref b ∧ H a = some (.tup xs) ∧ H b = some (.tup ys) ∧ xs.length + ys.length ≤ sizeLine ∧ ∀ s H', Same H H' → H' s = some (.tup (xs ++ ys)) → Q (.ref s) H'
theorem op_cat2 {X : Cx} : OpR X (binaryOp .Add) rCatB := by
  intro pins s σ H x y v u Q I rx ry h
  obtain ⟨a, b, xs, ys, rfl, rfl, hx, hy, hl, k⟩ := h
  refine op_catA pins s σ H _ _ v u Q I rx ry ⟨a, b, xs, ys, rfl, rfl, SqT.of hx, SqT.of hy, hl, fun e => ?_, fun _ e => ?_, fun _ _ p hp => k p _ (same_new hp) upd_same⟩
  · exact k b H (Same.refl H) (by rw [hy, e, List.nil_append])
  · exact k a H (Same.refl H) (by rw [hx, e, List.append_nil])
theorem mem_cut {xs : List V} {lo hi : Option Int} {x : V} (h : x ∈ cutV xs lo hi) : x ∈ xs := List.mem_of_mem_drop (List.mem_of_mem_take h)
/-! ### items of a display -/
def tGG (Pre : L2.St → Hp → Prop) (G : Hp → V → Prop) : TE := fun σ H Q => Pre σ H ∧ ∀ v H', Same H H' → G H' v → Q v H'
def tGGs (Pre : L2.St → Hp → Prop) (G : Hp → V → Prop) (n : Nat) : L2.TA := fun σ H Q => Pre σ H ∧ ∀ vs H', Same H H' → (∀ v ∈ vs, G H' v) → vs.length = n → Q vs H'
structure Mon (Pre : L2.St → Hp → Prop) (G : Hp → V → Prop) : Prop where
  pre : ∀ {σ H H'}, Same H H' → Pre σ H → Pre σ H'
  good : ∀ {H H' v}, Same H H' → G H v → G H' v
theorem paImp {X : Cx} {es : List Expr} {t t' : L2.TA} (h : PA X es t) (i : ∀ σ H Q, t' σ H Q → t σ H Q) : PA X es t' := ⟨fun pos pins s σ H Q I q => h.run pos pins s σ H Q I (i σ H Q q)⟩
theorem gg_nil {X : Cx} {Pre : L2.St → Hp → Prop} {G : Hp → V → Prop} : PA X [] (tGGs Pre G 0) := paImp pa_nil fun σ H Q ⟨_, k⟩ => k [] H (Same.refl H) (fun v h => absurd h (by simp)) rfl
theorem gg_cons {X : Cx} {Pre : L2.St → Hp → Prop} {G : Hp → V → Prop} {e : Expr} {es : List Expr} {n : Nat} (M : Mon Pre G) (he : PE X e (tGG Pre G)) (ht : PA X es (tGGs Pre G n))
    (hs : starEach (e :: es) X.env = (false, eval e X.env) :: starEach es X.env := by rfl) : PA X (e :: es) (tGGs Pre G (n + 1)) :=
  paImp (pa_cons he ht hs) fun σ H Q ⟨p, k⟩ => ⟨p, fun v H1 s1 g => ⟨M.pre s1 p, fun vs H2 s2 gs e => k (v :: vs) H2 (s1.trans s2) (fun w hw => by
    rcases List.mem_cons.mp hw with z | z
    · rw [z]; exact M.good s2 g
    · exact gs w z) (by rw [List.length_cons, e])⟩⟩
end Fair
end

section
set_option Elab.async false
set_option linter.all false
set_option maxRecDepth 100000
set_option maxHeartbeats 4000000
/-! The law: the check of a found schedule. -/
namespace Fair
open PySem PySem.Spec L2 FM
theorem rgc_div {L g : Nat} (hg : 1 ≤ g) (hg2 : g ≤ 12) (hL : L ≤ 60) (hd : L / g * g = L) : RgC 0 (L : Int) (g : Int) (L / g) := by
  have e : Builtin.Range.rangeSize 0 (L : Int) (g : Int) = ((L / g : Nat) : Int) := by
    rw [PyProof.Rows.rangeSize_pos (by omega) (by omega)]
    have e1 : (L : Int) + (g : Int) - 1 = ((g : Int) - 1) + ((L / g : Nat) : Int) * (g : Int) := by
      have : ((L / g * g : Nat) : Int) = (L : Int) := by rw [hd]
      rw [Int.natCast_mul] at this
      omega
    rw [e1, Int.add_mul_ediv_right _ _ (by omega), Int.ediv_eq_zero_of_lt (by omega) (by omega)]
    omega
  refine ⟨by omega, by rw [Int.natAbs_natCast]; omega, ?_, e⟩
  unfold Builtin.Range.small
  rw [e]
  have hq : L / g ≤ 60 := Nat.le_trans (Nat.div_le_self _ _) hL
  simp only [Builtin.Range.rangeFitsLong, Bool.and_eq_true, Bool.or_eq_true, decide_eq_true_eq, beq_iff_eq]
  have hqg : ((L / g : Nat) : Int) * (g : Int) = (L : Int) := by rw [← Int.natCast_mul, hd]
  generalize L / g = q at *
  refine ⟨by omega, .inr ?_⟩
  rw [if_pos (by omega), Bool.and_eq_true, decide_eq_true_eq, decide_eq_true_eq]
  omega
theorem cutV_nat (xs : List V) {i j : Nat} (h : i ≤ j) (hj : j ≤ xs.length) : cutV xs (some (i : Int)) (some (j : Int)) = (xs.drop i).take (j - i) := by
  unfold cutV
  rw [HT.sIx_nat, HT.sIx_nat, Nat.min_eq_left (show i ≤ xs.length by omega), Nat.min_eq_left hj]
structure BaseOk (H : Hp) (a : Addr) (xs : List V) : Prop where
  ob : H a = some (.tup xs)
  row : ∀ x ∈ xs, ∃ b r, x = V.ref b ∧ H b = some (.tup (nV r)) ∧ r.length ≤ 4
  l1 : 1 ≤ xs.length
  l60 : xs.length ≤ 60
theorem BaseOk.lf {H H' : Hp} {a : Addr} {xs : List V} (B : BaseOk H a xs) (s : Lf H H') : BaseOk H' a xs :=
  ⟨s.kp _ _ B.ob (fun xs z => by cases z) (fun xs z => by cases z), fun x hx => let ⟨b, r, e1, e2, e3⟩ := B.row x hx; ⟨b, r, e1, s.kp _ _ e2 (fun xs z => by cases z) (fun xs z => by cases z), e3⟩, B.l1, B.l60⟩
theorem baseOk_of {H : Hp} {a : Addr} {B : List (List Nat)} {n L : Nat} (h : BaseAt H a B) (hb : Base n L B) (h1 : 1 ≤ L) (h60 : L ≤ 60) : ∃ xs, BaseOk H a xs := by
  obtain ⟨xs, e, p⟩ := h
  have hl := paired_len p
  refine ⟨xs, e, fun x hx => ?_, by rw [hl, hb.len]; exact h1, by rw [hl, hb.len]; exact h60⟩
  obtain ⟨i, hi, ei⟩ := List.getElem_of_mem hx
  obtain ⟨r, er, b, q1, q2⟩ := paired_at p (List.getElem?_eq_getElem hi)
  rw [ei] at q1
  exact ⟨b, r, q1, q2, (hb.row r (List.mem_of_getElem? er)).2.2⟩
abbrev nLaw : List Str := ["_law_script", "_law_row", "_law_pairs_here", "_law_machines", "_law_base", "_law_k", "_law_cost", "_law_gap", "_law_start", "_law_values", "_law_turn", "_law_at", "_law_other", "_law_swapped", "_law_one", "_law_value", "_law_line", "_law_now", "_law_j"]
theorem scLaw : FnScope nLaw ["_law_script"] (defScope sLaw) := ⟨rfl, rfl, rfl, by decide +kernel, rfl, by decide +kernel, by decide +kernel⟩
def stL (v0 v1 v2 v3 v4 v5 v6 v7 v8 v9 v10 v11 v12 v13 v14 v15 : Option V) : L2.St := [v0, v1, v2, v3, v4, v5, v6, v7, v8, v9, v10, v11, v12, v13, v14, v15, none, none, none]
def lawAt (i : Nat) : Stmt := (defBody sLaw).getD i (.Pass ⟨0, 0, 0, 0⟩)
def tChk (K : PySem.W.Frag) : TS := fun D σ H => ∃ (v0 v1 v3 : Option V) (x vb : V) (ps : PR), σ = stL v0 v1 (some x) v3 (some vb) none none none none none none none none none none none ∧ PairsAt K H x ps ∧ OkC ps ∧
  (vb = .non ∨ ∃ a B, vb = .ref a ∧ BaseAt H a B ∧ Base ps.length (cyc ps) B ∧ Seg ps (cyc ps) B) ∧
  ∀ a xs v5 v6 v7 v8 H', Gr H H' → BaseOk H' a xs → D.nx (stL v0 v1 (some x) v3 (some (.ref a)) v5 v6 v7 v8 none none none none none none none) H'
section
variable {P : Program} {w : World} {K : PySem.W.Frag} {mg : Str → Option Value} {base : Heap} {f C : Addr} {fd : FuncData}
theorem ps_chk {A : Around} {outer : List Env} {s : Shared} {H : Hp} {E : XK} {cdv : Value} {fC : Addr} {fdC : FuncData} (T : Tx mg) (hr : Room 1 (A.deeper (PyProof.Rows.envOfC "law" (defScope sLaw) s.heap.objs.size f cdv)))
    (GC : FnOk P w K mg base CX0 1 fC fdC ["_law_pairs_here"] (spLCycle K)) (gC : mg "_law_cycle" = some (.ref fC)) (kC : PySem.W.keepIn K (.ref fC) = true) (bC : Binds K fdC ["_law_pairs_here"] []) :
    PS (cxOf CX0 P w K mg base nLaw "law" (defScope sLaw) f cdv A outer s H E).nox (lawAt 3) (tChk K) := by
  refine psImp (t := _) (ps_if (pt_cmp (pc_notN (pv 4)))
    (pss_one (ps_for PassesOwn.never rfl (pi_range1 rfl T.range (pa_cons (pe_callB call_len_seq rfl T.len PySem.boot_len (pa_cons (pv 2) pa_nil)) pa_nil)) (pg_name (i := 5) scLaw.nd rfl (.inr rfl))
      (pss_cons (ps_asg (pe_ix ix_tup (pv 2) (pv 5) (fun _ _ => rfl)) (pg_tup (by rfl) (pgs_cons (pg_name (i := 6) scLaw.nd rfl (.inl rfl)) (pgs_cons (pg_name (i := 7) scLaw.nd rfl (.inl rfl)) pgs_nil))))
      (pss_one (ps_for PassesOwn.never rfl (pi_range3 rfl T.range (pa_cons pe_int (pa_cons (pe_callB call_len_seq rfl T.len PySem.boot_len (pa_cons (pv 4) pa_nil)) (pa_cons (pv 7) pa_nil)))) (pg_name (i := 8) scLaw.nd rfl (.inl rfl))
        (pss_one (ps_if (pt_cmpR op_ne (pe_callB call_len_seq rfl T.len PySem.boot_len (pa_cons (pe_lc (own := [("_law_line", 16)]) (g := gName 16) rfl scLaw.nd (pi_tup (pe_slice sl_cut (pv 4) (po_some (pv 8)) (po_some (pe_op op_add (pv 8) (pv 7)))))
            (blkOk_by (own := [("_law_line", 16)]) (N := nLaw) (sc := defScope sLaw) (by decide +kernel)) (fun _ _ _ _ _ => pg_name (i := 16) scLaw.nd rfl (Or.inl rfl))
            (fun _ _ _ _ _ => pts_one (pt_cmpR (show OpR _ _ (rIn K false) from op_in_seq) (pv 5) (pv 16) (by rfl))) (fun _ _ _ _ _ => pv 16)) pa_nil)) (pv 6) (nomark _)) (pss_one (ps_ret pe_bl)) pss_nil)))))))
    (pss_one (ps_set (i := 4) scLaw.nd rfl (.inl rfl) (pe_callTy call_tuple_of rfl T.tuple (by decide +kernel) (pa_cons (pe_lc (own := [("_law_now", 17)]) (g := gName 17) (tt := tYes) rfl scLaw.nd (pi_range1 rfl T.range (pa_cons (pe_call GC hr rfl gC kC bC .nil pass0 (pa_cons (pv 2) pa_nil)) pa_nil))
        (blkOk_by (own := [("_law_now", 17)]) (N := nLaw) (sc := defScope sLaw) (by decide +kernel)) (fun _ _ _ _ _ => pg_name (i := 17) scLaw.nd rfl (Or.inl rfl)) (fun _ _ _ _ _ => pts_nil)
        (fun _ _ _ _ _ => pe_tup (pa_cons (pe_op op_modN (pe_callTy call_int1 rfl T.int PyProof.Rows.boot_int (pa_cons (pv 17) pa_nil)) (pe_callB (show CallR _ (.builtin "len") (rLenK K) from call_len_seq) rfl T.len PySem.boot_len (pa_cons (pv 2) pa_nil))) pa_nil))) pa_nil))))) ?_
  rintro D σ H ⟨v0, v1, v3, x, vb, ps, rfl, hp, ok, hb, k⟩
  have hcy := ok.cy
  have hpos := ok.pos
  have hp0 := hp
  cases hp with
  | @mk pa xs _ hq ht hpp =>
  have hl := paired_len hpp
  rcases hb with rfl | ⟨a, B, rfl, hBA, hB, hS⟩
  · -- no schedule: one is made
    refine ⟨_, rfl, _, rfl, iteF ?_⟩
    refine ⟨_, rfl, _, ps, rfl, hp0, ok, fun H1 s1 => ?_⟩
    refine ⟨_, rfl, by omega, by omega, fun Dd hD => ?_⟩
    rw [Int.toNat_natCast]
    refine lc_range (lo := 0) (n := cyc ps) (fun i H5 => ∃ vs, H5 Dd = some (.lst vs) ∧ Paired (fun x r => ∃ b, x = V.ref b ∧ H5 b = some (.tup (nV r))) vs ((List.range i).map fun u => [u % ps.length]) ∧ Same H1 H5)
      ⟨[], upd_same, .nil, same_new hD⟩ ?_ ?_
    · rintro i H5 hi ⟨vs, d5, pq, s5⟩
      have e0 : (0 : Int) + (i : Int) = i := Int.zero_add _
      rw [e0]
      refine ⟨rfl, _, rfl, .inl ⟨_, rfl, _, rfl, pa, xs, rfl, .inr ((Gr.of (s1.trans s5)).seqT hq), _, _, rfl, rfl, (by have := ok.l1; omega), ?_⟩⟩
      rw [hl]
      have efm := fmod_nat i ps.length
      refine ⟨(by show 1 ≤ sizeLine; decide), fun t ht' => ?_⟩
      have s6 := same_new (o := .tup [V.int ((i : Int).fmod (ps.length : Int))]) ht'
      have hvl : vs.length = i := by rw [paired_len pq, List.length_map, List.length_range]
      refine ⟨vs, s6 _ _ d5, small1000 (by omega), vs ++ [.ref t], upd_same, ?_, fun b o e => ?_⟩
      · rw [List.range_succ, List.map_append]
        have nDt : Dd ≠ t := ne_of_none d5 ht'
        refine paired_append (paired_map (fun y r ⟨b, q1, q2⟩ => ⟨b, q1, ?_⟩) pq) ⟨t, rfl, by rw [upd_ne nDt.symm, upd_same]; exact congrArg (fun z => some (HO.tup [V.int z])) efm⟩
        rw [upd_ne (ne_of q2 d5 (by intro z; cases z))]
        exact s6 _ _ q2
      · rw [upd_ne (ne_of_none e hD)]
        exact s6 _ _ (s5 b o e)
    · rintro H5 ⟨vs, d5, pq, s5⟩
      refine ⟨Dd, vs, rfl, .inl ⟨SqL.of d5, fun l hl' => ?_⟩⟩
      have s6 := same_new (o := .tup vs) hl'
      have hvl : vs.length = cyc ps := by rw [paired_len pq, List.length_map, List.length_range]
      refine k l vs _ _ _ _ _ (Gr.of (s1.trans (s5.trans s6))) ⟨upd_same, fun y hy => ?_, by omega, by omega⟩
      obtain ⟨i, hi, ei⟩ := List.getElem_of_mem hy
      obtain ⟨r, er, b, q1, q2⟩ := paired_at pq (List.getElem?_eq_getElem hi)
      rw [ei] at q1
      refine ⟨b, r, q1, s6 _ _ q2, ?_⟩
      obtain ⟨u, _, rfl⟩ := List.mem_map.mp (List.mem_of_getElem? er)
      show 1 ≤ 4
      decide
  · refine ⟨_, rfl, _, rfl, iteT ?_⟩
    obtain ⟨bs, hbs, pB⟩ := id hBA
    have hbl : bs.length = cyc ps := by rw [paired_len pB, hB.len]
    -- for _law_k in range(len(pairs))
    refine ⟨_, rfl, pa, xs, rfl, .inr hq, _, rfl, by have := ok.l4; omega, by have := ok.l4; omega, ?_⟩
    rw [hl, Int.toNat_natCast]
    refine for_range (lo := 0) (n := ps.length) (fun i σ H2 => ∃ v5 v6 v7 v8, σ = stL v0 v1 (some (.ref pa)) v3 (some (.ref a)) v5 v6 v7 v8 none none none none none none none ∧ Same H H2) ⟨_, _, _, _, rfl, Same.refl H⟩ ?_ ?_
    · rintro i σ H2 hi ⟨v5, v6, v7, v8, rfl, s2⟩
      have e0 : (0 : Int) + (i : Int) = i := Int.zero_add _
      rw [e0]
      obtain ⟨z, hz, py⟩ := paired_atR hpp (List.getElem?_eq_getElem hi)
      obtain ⟨cc1, cc2⟩ := pc_of (List.getElem?_eq_getElem hi)
      have okp := ok.ok _ (List.getElem_mem hi)
      generalize ps[i] = pr at py cc1 cc2 okp
      cases py with
      | @mk b2 cc gg hb2 hbt2 =>
        simp only at okp cc1 cc2
        have hd := (suits_of ok).dv i hi
        rw [cc2] at hd
        refine ⟨_, rfl, _, rfl, pa, _, _, _, rfl, rfl, (Gr.of s2).seqT hq, atI_nat hz, b2, _, rfl, (Gr.of s2).seqT hb2, rfl, _, _, rfl, _, _, rfl, rfl, ?_⟩
        -- for _law_start in range(0, len(base), gap)
        refine ⟨_, rfl, a, bs, rfl, .inr (SqT.of (s2 _ _ hbs)), _, rfl, 0, _, _, cyc ps / gg, rfl, (by rw [hbl]; exact rgc_div (by omega) (by omega) hcy hd), ?_⟩
        refine for_rangeC (lo := 0) (c := (gg : Int)) (n := cyc ps / gg) (fun q σ H3 => ∃ v8, σ = stL v0 v1 (some (.ref pa)) v3 (some (.ref a)) (some (.int (i : Nat))) (some (.int (cc : Nat))) (some (.int (gg : Nat))) v8 none none none none none none none ∧ Same H H3) ⟨_, rfl, s2⟩ ?_ ?_
        · rintro q σ H3 hqn ⟨w8, rfl, s3⟩
          have e1 : (0 : Int) + ((q : Nat) : Int) * (gg : Int) = ((q * gg : Nat) : Int) := by rw [Int.natCast_mul]; omega
          rw [e1]
          have hseg : q * gg + gg ≤ cyc ps := by
            have : (q + 1) * gg ≤ cyc ps / gg * gg := Nat.mul_le_mul_right _ hqn
            rw [hd, Nat.succ_mul] at this
            exact this
          refine ⟨_, rfl, _, rfl, _, rfl, _, rfl, _, rfl, _, _, rfl, rfl, _, rfl, a, bs, rfl, s3 _ _ hbs, fun sl H4 s4 hsl => ?_⟩
          have e2 : cutV bs (some ((q * gg : Nat) : Int)) (some (((q * gg : Nat) : Int) + (gg : Int))) = (bs.drop (q * gg)).take gg := by
            rw [show ((q * gg : Nat) : Int) + (gg : Int) = ((q * gg + gg : Nat) : Int) by omega, cutV_nat bs (by omega) (by omega), Nat.add_sub_cancel_left]
          rw [e2] at hsl
          have s34 := s3.trans s4
          refine ⟨sl, rfl, ⟨_, SqT.of hsl⟩, fun D2 hD2 => ?_⟩
          have old : ∀ H5, (∀ b, b ≠ D2 → H5 b = H4 b) → Same H4 H5 := fun H5 e b o hb => by rw [e b (ne_of_none hb hD2)]; exact hb
          have hlen : ((bs.drop (q * gg)).take gg).length = gg := by rw [List.length_take, List.length_drop]; omega
          refine lc_tup (K := K) (a := sl) (xs := (bs.drop (q * gg)).take gg) (fun j H5 => ∃ vs, H5 D2 = some (.lst vs) ∧ vs.length = sm j (fun u => ind (i ∈ rowAt B (q * gg + u))) ∧ vs.length ≤ j ∧ ∀ b, b ≠ D2 → H5 b = H4 b)
            ⟨[], upd_same, rfl, Nat.le_refl _, fun b hb => upd_ne hb⟩ (fun j H5 _ ⟨_, _, _, _, e⟩ => SqT.of (old H5 e _ _ hsl)) ?_ ?_
          · rintro j y H5 hj ⟨vs, d5, hvl, hvj, e5⟩
            have hjg : j < gg := by
              have := (List.getElem?_eq_some_iff.mp hj).1
              omega
            rw [List.getElem?_take_of_lt hjg, List.getElem?_drop] at hj
            obtain ⟨r, er, b, q1, q2⟩ := paired_at pB hj
            subst q1
            have err : rowAt B (q * gg + j) = r := by unfold rowAt; exact getD_of er
            have s5 := s34.trans (old H5 e5)
            refine ⟨rfl, _, rfl, _, rfl, b, _, rfl, .inr (SqT.of (s5 _ _ q2)), rfl, nV_flat r, _, rfl, ?_⟩
            show if inV (V.int (i : Nat)) (nV r) = true then _ else _
            rw [inV_int]
            by_cases hin : i ∈ r
            · rw [decide_eq_true hin]
              refine iteT ⟨_, rfl, vs, d5, small1000 (by omega), vs ++ [.ref b], upd_same, ?_, by rw [List.length_append, List.length_singleton]; omega, fun b' hb' => by rw [upd_ne hb']; exact e5 b' hb'⟩
              rw [List.length_append, hvl]
              simp only [sm]
              rw [err, ind_t hin] <;> rfl
            · rw [decide_eq_false hin]
              refine iteF ⟨vs, d5, ?_, by omega, e5⟩
              rw [hvl]
              simp only [sm]
              rw [err, ind_f hin] <;> rfl
          · rintro H5 ⟨vs, d5, hvl, hvj, e5⟩
            have hc := hS i q hi (by rw [cc2]; exact hqn)
            rw [cc1, cc2] at hc
            rw [hlen, hc] at hvl
            refine ⟨D2, vs, rfl, .inl (SqL.of d5), _, rfl, rfl, _, rfl, ?_⟩
            show if (!decide (V.int (vs.length : Nat) = V.int (cc : Nat))) = true then _ else _
            rw [decide_eq_true (by rw [hvl])]
            exact iteF ⟨_, rfl, s34.trans (old H5 e5)⟩
        · rintro σ H3 ⟨w8, rfl, s3⟩
          exact ⟨_, _, _, _, rfl, s3⟩
    · rintro σ H2 ⟨v5, v6, v7, v8, rfl, s2⟩
      obtain ⟨ys, hys⟩ := baseOk_of hBA hB hpos hcy
      exact k a ys _ _ _ _ H2 (Gr.of s2) (hys.lf (Lf.of (Gr.of s2)))
end
end Fair
end

section
set_option Elab.async false
set_option linter.all false
set_option maxRecDepth 100000
set_option maxHeartbeats 4000000
/-! The law: the values that are shown. -/
namespace Fair
open PySem PySem.Spec L2 FM
theorem BaseOk.good {K : PySem.W.Frag} {H : Hp} {a : Addr} {xs : List V} (B : BaseOk H a xs) : ∀ x ∈ xs, GoodRow K H x := fun x hx => by
  obtain ⟨b, r, rfl, e, hl⟩ := B.row x hx
  refine goodRow_tup e (fun y hy => ?_) (by rw [nV_len]; omega)
  obtain ⟨t, _, rfl⟩ := List.mem_map.mp hy
  trivial
def PreV : L2.St → Hp → Prop := fun σ H => ∃ a xs, σ[4]? = some (some (V.ref a)) ∧ BaseOk H a xs
theorem monV {K : PySem.W.Frag} : Mon PreV (GoodVal K) := ⟨fun s ⟨a, xs, e, B⟩ => ⟨a, xs, e, B.lf (Lf.of (Gr.of s))⟩, fun s g => g.lf (Lf.of (Gr.of s))⟩
def PreR (K : PySem.W.Frag) : L2.St → Hp → Prop := fun σ H => ∃ (v0 v1 v3 v6 v7 v8 v9 v10 v12 v13 v14 v15 : Option V) (pa a : Addr) (pxs xs : List V) (kk at_ : Nat), σ = stL v0 v1 (some (.ref pa)) v3 (some (.ref a)) (some (.int (kk : Nat))) v6 v7 v8 v9 v10 (some (.int (at_ : Nat))) v12 v13 v14 v15 ∧
  SqT K H pa pxs ∧ BaseOk H a xs ∧ at_ < xs.length
theorem monR {K : PySem.W.Frag} : Mon (PreR K) (GoodRow K) := ⟨fun s ⟨v0, v1, v3, v6, v7, v8, v9, v10, v12, v13, v14, v15, pa, a, pxs, xs, kk, at_, e, q, B, h⟩ => ⟨v0, v1, v3, v6, v7, v8, v9, v10, v12, v13, v14, v15, pa, a, pxs, xs, kk, at_, e, (Gr.of s).seqT q, B.lf (Lf.of (Gr.of s)), h⟩, fun s g => g.lf (Lf.of (Gr.of s))⟩
section
variable {P : Program} {w : World} {K : PySem.W.Frag} {mg : Str → Option Value} {base : Heap} {f C : Addr} {fd : FuncData}
theorem ps_values {A : Around} {outer : List Env} {s : Shared} {H : Hp} {E : XK} {cdv : Value} (T : Tx mg) :
    PS (cxOf CX0 P w K mg base nLaw "law" (defScope sLaw) f cdv A outer s H E).nox (lawAt 4) (tAsg (tLst (tGGs PreV (GoodVal K) 10)) (gName 9)) := by
  refine ps_set (i := 9) scLaw.nd rfl (.inl rfl) (pe_lst (gg_cons monV (peImp (pv 4) ?_) (gg_cons monV (peImp (pe_callTy call_list_of rfl T.list (by decide +kernel) (pa_cons (pv 4) pa_nil)) ?_) (gg_cons monV (peImp (pe_slice sl_cut (pv 4) (po_some pe_int) po_none) ?_)
    (gg_cons monV (peImp (pe_op op_cat2 (pv 4) (pv 4)) ?_) (gg_cons monV (peImp (Lx.pe_revT (pv 4)) ?_) (gg_cons monV (peImp (pe_op op_cat2 (pe_slice sl_cut (pv 4) (po_some pe_int) po_none) (pe_slice sl_cut (pv 4) po_none (po_some pe_int))) ?_)
    (gg_cons monV (peImp pe_non ?_) (gg_cons monV (peImp (pe_tup pa_nil) ?_) (gg_cons monV (peImp pe_int ?_) (gg_cons monV (peImp pe_dnewK ?_) gg_nil))))))))))) (by rfl)
  · rintro σ H Q ⟨⟨a, xs, e, B⟩, k⟩
    exact ⟨_, e, k _ H (Same.refl H) (goodVal_tup B.ob B.good (by have := B.l60; omega))⟩
  · rintro σ H Q ⟨⟨a, xs, e, B⟩, k⟩
    exact ⟨_, e, a, xs, rfl, .inr (SqT.of B.ob), fun l hl => k _ _ (same_new hl) ⟨none, .no (good_lst upd_same)⟩⟩
  · rintro σ H Q ⟨⟨a, xs, e, B⟩, k⟩
    refine ⟨_, e, 1, rfl, a, xs, rfl, B.ob, fun s H1 s1 hs => k _ H1 s1 (goodVal_tup hs (fun x hx => ?_) ?_)⟩
    · exact (B.good x (mem_cut hx)).lf (Lf.of (Gr.of s1))
    · have := cutV_length xs (some 1) none
      have := B.l60
      omega
  · rintro σ H Q ⟨⟨a, xs, e, B⟩, k⟩
    have h60 := B.l60
    refine ⟨_, e, _, e, a, a, xs, xs, rfl, rfl, B.ob, B.ob, by rw [sizeLine_eq]; omega, fun s H1 s1 hs => k _ H1 s1 (goodVal_tup hs (fun x hx => ?_) (by rw [List.length_append]; omega))⟩
    rcases List.mem_append.mp hx with z | z <;> exact (B.good x z).lf (Lf.of (Gr.of s1))
  · rintro σ H Q ⟨⟨a, xs, e, B⟩, k⟩
    refine ⟨_, e, a, xs, rfl, SqT.of B.ob, fun p hp => k _ _ (same_new hp) (goodVal_tup upd_same (fun x hx => ?_) (by rw [List.length_reverse]; have := B.l60; omega))⟩
    exact (B.good x (List.mem_reverse.mp hx)).lf (Lf.of (Gr.of (same_new hp)))
  · rintro σ H Q ⟨⟨a, xs, e, B⟩, k⟩
    have h60 := B.l60
    have c1 := cutV_length xs (some 1) none
    have c2 := cutV_length xs none (some 1)
    refine ⟨_, e, 1, rfl, a, xs, rfl, B.ob, fun s H1 s1 hs => ?_⟩
    refine ⟨_, e, 1, rfl, a, xs, rfl, s1 _ _ B.ob, fun s' H2 s2 hs' => ?_⟩
    refine ⟨s, s', _, _, rfl, rfl, s2 _ _ hs, hs', by rw [sizeLine_eq]; omega, fun s'' H3 s3 hs'' => k _ H3 (s1.trans (s2.trans s3)) (goodVal_tup hs'' (fun x hx => ?_) (by rw [List.length_append]; omega))⟩
    have g := Lf.of (Gr.of (s1.trans (s2.trans s3)))
    rcases List.mem_append.mp hx with z | z <;> exact (B.good x (mem_cut z)).lf g
  · rintro σ H Q ⟨_, k⟩
    exact k _ H (Same.refl H) ⟨none, .no good_non⟩
  · rintro σ H Q ⟨_, k⟩
    exact ⟨by decide, fun p hp => k _ _ (same_new hp) (goodVal_tup upd_same (fun x hx => absurd hx (by simp)) (by decide))⟩
  · rintro σ H Q ⟨_, k⟩
    exact k _ H (Same.refl H) ⟨none, .no (good_int 3)⟩
  · rintro σ H Q ⟨_, k⟩
    exact fun p hp => k _ _ (same_new hp) ⟨none, .no (good_dict upd_same)⟩
def turnBody : List Stmt := match lawAt 5 with
  | .For _ _ b _ _ => b
  | _ => []
def dispE (i : Nat) : Expr := match turnBody.getD i (.Pass ⟨0, 0, 0, 0⟩) with
  | .For _ e _ _ _ => e
  | _ => .Constant .none 0 ⟨0, 0, 0, 0⟩
theorem pe_disp5 {A : Around} {outer : List Env} {s : Shared} {H : Hp} {E : XK} {cdv : Value} (T : Tx mg) :
    PE (cxOf CX0 P w K mg base nLaw "law" (defScope sLaw) f cdv A outer s H E).nox (dispE 5) (tLst (tGGs (PreR K) (GoodRow K) 3)) := by
  refine pe_lst (gg_cons monR (peImp (pe_callTy call_tuple_of rfl T.tuple (by decide +kernel) (pa_cons (pe_callB (cr_sortedSet rfl) rfl T.sorted (by decide +kernel) (pa_cons (pe_callTy (Lx.cr_setL rfl) rfl T.set (by decide +kernel) (pa_cons (pe_op op_cat (pe_callTy call_list_of rfl T.list (by decide +kernel) (pa_cons (pe_ix ix_tup (pv 4) (pv 11) (fun _ _ => rfl)) pa_nil)) (pe_lst (pa_cons (pv 5) pa_nil))) pa_nil)) pa_nil)) pa_nil)) ?_)
      (gg_cons monR (peImp (pe_callTy call_tuple_of rfl T.tuple (by decide +kernel) (pa_cons (pe_lc (own := [("_law_j", 18)]) (g := gName 18) rfl scLaw.nd (pi_tup (pe_ix ix_tup (pv 4) (pv 11) (fun _ _ => rfl))) (blkOk_by (own := [("_law_j", 18)]) (N := nLaw) (sc := defScope sLaw) (by decide +kernel)) (fun _ _ _ _ _ => pg_name (i := 18) scLaw.nd rfl (Or.inl rfl))
          (fun _ _ _ _ _ => pts_one (pt_cmpR op_ne (pv 18) (pv 5) (nomark _))) (fun _ _ _ _ _ => pv 18)) pa_nil)) ?_)
      (gg_cons monR (peImp (pe_callTy call_list_of rfl T.list (by decide +kernel) (pa_cons (pe_ix ix_tup (pv 4) (pv 11) (fun _ _ => rfl)) pa_nil)) ?_) gg_nil)))
  · rintro σ H Q ⟨⟨v0, v1, v3, v6, v7, v8, v9, v10, v12, v13, v14, v15, pa, a, pxs, xs, kk, at_, rfl, hpq, B, hat⟩, k⟩
    have hx : xs[at_]? = some xs[at_] := List.getElem?_eq_getElem hat
    obtain ⟨b, r, e1, e2, e3⟩ := B.row _ (List.getElem_mem hat)
    rw [e1] at hx
    refine ⟨_, rfl, _, rfl, a, xs, _, _, rfl, rfl, SqT.of B.ob, atI_nat hx, b, nV r, rfl, .inr (SqT.of e2), fun l1 h1 => ?_⟩
    refine ⟨_, rfl, (by show 1 ≤ sizeLine; decide), fun l2 h2 => ?_⟩
    have s1 := same_new (o := .lst (nV r)) h1
    have s2 := same_new (o := .lst [V.int (kk : Nat)]) h2
    refine ⟨l1, l2, _, _, rfl, rfl, s2 _ _ upd_same, upd_same, (by rw [nV_len, List.length_singleton, sizeLine_eq]; omega), fun l3 h3 => ?_⟩
    rw [← nV_app]
    have s3 := same_new (o := .lst (nV (r ++ [kk]))) h3
    refine ⟨l3, (r ++ [kk]).map (fun t : Nat => (t : Int)), rfl, (by rw [← nV_ints]; exact SqL.of upd_same), (by rw [List.length_map, List.length_append, List.length_singleton]; omega), fun p n hp hn => ?_⟩
    rw [List.length_map, List.length_append, List.length_singleton] at hn
    refine ⟨p, _, n, rfl, upd_same, by omega, fun ns p2 srt mem hl hp2 => ?_⟩
    have s4 := same_new (o := SetO w p (fun j => decide (j ∈ (r ++ [kk]).map (fun t : Nat => (t : Int)))) n) hp
    have s5 := same_new (o := .lst (ns.map V.int)) hp2
    refine ⟨p2, _, rfl, .inl ⟨SqL.of upd_same, fun t ht => ?_⟩⟩
    have s6 := same_new (o := .tup (ns.map V.int)) ht
    refine k _ _ (s1.trans (s2.trans (s3.trans (s4.trans (s5.trans s6))))) (goodRow_tup upd_same (fun x hx => ?_) (by rw [List.length_map]; omega))
    obtain ⟨i, _, rfl⟩ := List.mem_map.mp hx
    trivial
  · rintro σ H Q ⟨⟨v0, v1, v3, v6, v7, v8, v9, v10, v12, v13, v14, v15, pa, a, pxs, xs, kk, at_, rfl, hpq, B, hat⟩, k⟩
    have hx : xs[at_]? = some xs[at_] := List.getElem?_eq_getElem hat
    obtain ⟨b, r, e1, e2, e3⟩ := B.row _ (List.getElem_mem hat)
    rw [e1] at hx
    refine ⟨_, rfl, _, rfl, a, xs, _, _, rfl, rfl, SqT.of B.ob, atI_nat hx, b, rfl, ⟨_, SqT.of e2⟩, fun D2 hD2 => ?_⟩
    have old : ∀ H5, (∀ b, b ≠ D2 → H5 b = H b) → Same H H5 := fun H5 e b o hb => by rw [e b (ne_of_none hb hD2)]; exact hb
    refine lc_tup (K := K) (a := b) (xs := nV r) (fun j H5 => ∃ vs, H5 D2 = some (.lst vs) ∧ (∀ v ∈ vs, At v) ∧ vs.length ≤ j ∧ ∀ b, b ≠ D2 → H5 b = H b) ⟨[], upd_same, fun v h => absurd h (by simp), Nat.le_refl _, fun b hb => upd_ne hb⟩ (fun j H5 _ ⟨_, _, _, _, e⟩ => SqT.of (old H5 e _ _ e2)) ?_ ?_
    · rintro j y H5 hj ⟨vs, d5, hvs, hvl, e5⟩
      have hjl := (List.getElem?_eq_some_iff.mp hj).1
      rw [nV_len] at hjl
      obtain ⟨t, _, rfl⟩ := nV_get hj
      refine ⟨rfl, _, rfl, _, rfl, rfl, _, rfl, ?_⟩
      show if (!decide (V.int (t : Nat) = V.int (kk : Nat))) = true then _ else _
      cases decide (V.int (t : Nat) = V.int (kk : Nat)) with
      | true => exact iteF ⟨vs, d5, hvs, by omega, e5⟩
      | false =>
        refine iteT ⟨_, rfl, vs, d5, small1000 (by omega), vs ++ [V.int (t : Nat)], upd_same, fun v hv => ?_, by rw [List.length_append, List.length_singleton]; omega, fun b' hb' => by rw [upd_ne hb']; exact e5 b' hb'⟩
        rcases List.mem_append.mp hv with z | z
        · exact hvs v z
        · rw [List.mem_singleton.mp z]; trivial
    · rintro H5 ⟨vs, d5, hvs, hvl, e5⟩
      rw [nV_len] at hvl
      refine ⟨D2, vs, rfl, .inl ⟨SqL.of d5, fun t ht => ?_⟩⟩
      exact k _ _ ((old H5 e5).trans (same_new ht)) (goodRow_tup upd_same hvs (by omega))
  · rintro σ H Q ⟨⟨v0, v1, v3, v6, v7, v8, v9, v10, v12, v13, v14, v15, pa, a, pxs, xs, kk, at_, rfl, hpq, B, hat⟩, k⟩
    have hx : xs[at_]? = some xs[at_] := List.getElem?_eq_getElem hat
    obtain ⟨b, r, e1, e2, e3⟩ := B.row _ (List.getElem_mem hat)
    rw [e1] at hx
    exact ⟨_, rfl, _, rfl, a, xs, _, _, rfl, rfl, SqT.of B.ob, atI_nat hx, b, nV r, rfl, .inr (SqT.of e2), fun l1 h1 => k _ _ (same_new h1) ⟨none, .no (good_lst upd_same)⟩⟩
theorem pe_disp6 {A : Around} {outer : List Env} {s : Shared} {H : Hp} {E : XK} {cdv : Value} (T : Tx mg) :
    PE (cxOf CX0 P w K mg base nLaw "law" (defScope sLaw) f cdv A outer s H E).nox (dispE 6) (tLst (tGGs (PreR K) (GoodRow K) 6)) := by
  refine pe_lst (gg_cons monR (peImp (Lx.pe_revT (pe_ix ix_tup (pv 4) (pv 11) (fun _ _ => rfl))) ?_) (gg_cons monR (peImp (pe_tup (pa_cons (pe_callB call_len_seq rfl T.len PySem.boot_len (pa_cons (pv 2) pa_nil)) pa_nil)) ?_)
      (gg_cons monR (peImp (pe_tup (pa_cons pe_bl pa_nil)) ?_) (gg_cons monR (peImp (pe_tup (pa_cons pe_str pa_nil)) ?_) (gg_cons monR (peImp pe_non ?_) (gg_cons monR (peImp (pe_tup (pa_cons pe_int (pa_cons pe_int pa_nil))) ?_) gg_nil))))))
  · rintro σ H Q ⟨⟨v0, v1, v3, v6, v7, v8, v9, v10, v12, v13, v14, v15, pa, a, pxs, xs, kk, at_, rfl, hpq, B, hat⟩, k⟩
    have hx : xs[at_]? = some xs[at_] := List.getElem?_eq_getElem hat
    obtain ⟨b, r, e1, e2, e3⟩ := B.row _ (List.getElem_mem hat)
    rw [e1] at hx
    refine ⟨_, rfl, _, rfl, a, xs, _, _, rfl, rfl, SqT.of B.ob, atI_nat hx, b, nV r, rfl, SqT.of e2, fun p hp => k _ _ (same_new hp) (goodRow_tup upd_same (fun x hx => ?_) (by rw [List.length_reverse, nV_len]; omega))⟩
    obtain ⟨t, _, rfl⟩ := List.mem_map.mp (List.mem_reverse.mp hx)
    trivial
  · rintro σ H Q ⟨⟨v0, v1, v3, v6, v7, v8, v9, v10, v12, v13, v14, v15, pa, a, pxs, xs, kk, at_, rfl, hpq, B, hat⟩, k⟩
    refine ⟨_, rfl, pa, pxs, rfl, .inr hpq, (by show 1 ≤ sizeLine; decide), fun p hp => k _ _ (same_new hp) (goodRow_tup upd_same (fun x hx => ?_) (by show 1 ≤ 64; decide))⟩
    rw [List.mem_singleton.mp hx]
    trivial
  · rintro σ H Q ⟨_, k⟩
    refine ⟨(by show 1 ≤ sizeLine; decide), fun p hp => k _ _ (same_new hp) (goodRow_tup upd_same (fun x hx => ?_) (by show 1 ≤ 64; decide))⟩
    rw [List.mem_singleton.mp hx]
    trivial
  · rintro σ H Q ⟨_, k⟩
    refine ⟨(by show 1 ≤ sizeLine; decide), fun p hp => k _ _ (same_new hp) (goodRow_tup upd_same (fun x hx => ?_) (by show 1 ≤ 64; decide))⟩
    rw [List.mem_singleton.mp hx]
    rfl
  · rintro σ H Q ⟨_, k⟩
    exact k _ H (Same.refl H) ⟨none, .no good_non⟩
  · rintro σ H Q ⟨_, k⟩
    refine ⟨(by show 2 ≤ sizeLine; decide), fun p hp => k _ _ (same_new hp) (goodRow_tup upd_same (fun x hx => ?_) (by show 2 ≤ 64; decide))⟩
    rcases List.mem_cons.mp hx with z | z
    · rw [z]; trivial
    · rw [List.mem_singleton.mp z]; trivial
end
end Fair
end

section
set_option Elab.async false
set_option linter.all false
set_option maxRecDepth 100000
set_option maxHeartbeats 4000000
/-! The law: the three turns. -/
namespace Fair
open PySem PySem.Spec L2 FM
def tRF (K : PySem.W.Frag) (n : Nat) : TS := fun D σ H => ∃ (v0 v1 v3 v6 v7 v8 v10 v12 v13 v14 v15 : Option V) (pa a : Addr) (pxs xs : List V) (kk at_ : Nat) (vl : Addr) (vals : List V),
  σ = stL v0 v1 (some (.ref pa)) v3 (some (.ref a)) (some (.int (kk : Nat))) v6 v7 v8 (some (.ref vl)) v10 (some (.int (at_ : Nat))) v12 v13 v14 v15 ∧ SqT K H pa pxs ∧ BaseOk H a xs ∧ at_ < xs.length ∧ H vl = some (.lst vals) ∧ (∀ v ∈ vals, GoodVal K H v) ∧ vals.length ≤ 1000 ∧
  ∀ vals' v14' H', Fr [vl] H H' → H' vl = some (.lst vals') → (∀ v ∈ vals', GoodVal K H' v) → vals'.length ≤ vals.length + n → D.nx (stL v0 v1 (some (.ref pa)) v3 (some (.ref a)) (some (.int (kk : Nat))) v6 v7 v8 (some (.ref vl)) v10 (some (.int (at_ : Nat))) v12 v13 v14' v15) H'
section
variable {P : Program} {w : World} {K : PySem.W.Frag} {mg : Str → Option Value} {base : Heap} {f C : Addr} {fd : FuncData}
theorem ps_rf5 {A : Around} {outer : List Env} {s : Shared} {H : Hp} {E : XK} {cdv : Value} (T : Tx mg) :
    PS (cxOf CX0 P w K mg base nLaw "law" (defScope sLaw) f cdv A outer s H E).nox (turnBody.getD 5 (.Pass ⟨0, 0, 0, 0⟩)) (tRF K 3) := by
  refine psImp (t := _) (ps_for PassesOwn.never rfl (pi_list (pe_disp5 T)) (pg_name (i := 14) scLaw.nd rfl (.inl rfl))
    (pss_one (ps_expr (pe_bm PySem.F.plainAttrs_list PySem.F.slot_list_append PySem.F.type_list_append mt_append (pv 9) (pa_cons (pe_op op_cat2 (pe_op op_cat2 (pe_slice sl_cut (pv 4) po_none (po_some (pv 11))) (pe_tup (pa_cons (pv 14) pa_nil)))
      (pe_slice sl_cut (pv 4) (po_some (pe_op op_add (pv 11) pe_int)) po_none)) pa_nil))))) ?_
  rintro D σ H ⟨v0, v1, v3, v6, v7, v8, v10, v12, v13, v14, v15, pa, a, pxs, xs, kk, at_, vl, vals, rfl, hpq, B, hat, hvl, hgv, hlen, k⟩
  refine ⟨⟨v0, v1, v3, v6, v7, v8, _, v10, v12, v13, v14, v15, pa, a, pxs, xs, kk, at_, rfl, hpq, B, hat⟩, fun rows H1 s1 hrows hrl => ⟨by rw [hrl]; decide, fun lt hlt => ?_⟩⟩
  have s2 := same_new (o := .lst rows) hlt
  have s12 := s1.trans s2
  have nlv : lt ≠ vl := (ne_of_none (s1 _ _ hvl) hlt).symm
  refine ⟨lt, rfl, ⟨_, SqL.of upd_same⟩, for_list (K := K) (a := lt) (xs := rows) (fun i σ H5 => ∃ vals' v14', σ = stL v0 v1 (some (.ref pa)) v3 (some (.ref a)) (some (.int (kk : Nat))) v6 v7 v8 (some (.ref vl)) v10 (some (.int (at_ : Nat))) v12 v13 v14' v15 ∧ Fr [vl] H H5 ∧ H5 lt = some (.lst rows) ∧ H5 vl = some (.lst vals') ∧ (∀ v ∈ vals', GoodVal K H5 v) ∧ vals'.length = vals.length + i ∧ (∀ v ∈ rows, GoodRow K H5 v))
    ⟨vals, _, rfl, Fr.of s12, upd_same, s12 _ _ hvl, fun v hv => (hgv v hv).lf (Lf.of (Gr.of s12)), rfl, fun v hv => (hrows v hv).lf (Lf.of (Gr.of s2))⟩ (fun i σ H5 _ ⟨_, _, _, _, e, _⟩ => SqL.of e) ?_ ?_⟩
  · rintro i y σ H5 hi ⟨vals', v14', rfl, F5, hlt5, hvl5, hgv5, hl5, hr5⟩
    have hil : i < 3 := by have := (List.getElem?_eq_some_iff.mp hi).1; omega
    have hy := hr5 y (List.mem_of_getElem? hi)
    have L5 : Lf H H5 := Lf.frow F5 hvl hvl5
    have B5 := B.lf L5
    have h60 := B5.l60
    refine ⟨_, rfl, .inl ⟨rfl, _, SqL.of hvl5⟩, ?_⟩
    refine ⟨_, rfl, _, rfl, _, rfl, a, xs, rfl, B5.ob, fun s1' H6 t6 hs1 => ?_⟩
    refine ⟨_, rfl, (by show 1 ≤ sizeLine; decide), fun t ht => ?_⟩
    have t7 := same_new (o := .tup [y]) ht
    have c1 := cutV_length xs none (some (at_ : Int))
    have c2 := cutV_length xs (some ((at_ : Int) + 1)) none
    refine ⟨s1', t, _, _, rfl, rfl, t7 _ _ hs1, upd_same, (by rw [List.length_singleton, sizeLine_eq]; omega), fun s2' H8 t8 hs2 => ?_⟩
    have t58 := t6.trans (t7.trans t8)
    refine ⟨_, rfl, _, rfl, _, _, rfl, rfl, _, rfl, a, xs, rfl, t58 _ _ B5.ob, fun s3' H9 t9 hs3 => ?_⟩
    refine ⟨s2', s3', _, _, rfl, rfl, t9 _ _ hs2, hs3, (by rw [List.length_append, List.length_singleton, sizeLine_eq]; omega), fun s4' H10 t10 hs4 => ?_⟩
    have tt := t58.trans (t9.trans t10)
    refine ⟨vl, vals', _, rfl, rfl, tt _ _ hvl5, small1000 (by omega) |> fun z => (by rw [sizeLine_eq]; omega), ?_⟩
    have L10 : Lf H5 H10 := Lf.of (Gr.of tt)
    have P10 : Lf H10 (upd H10 vl (.lst (vals' ++ [.ref s4']))) := Lf.put (tt _ _ hvl5)
    have L11 := L10.trans P10
    have gnew : GoodVal K (upd H10 vl (.lst (vals' ++ [.ref s4']))) (.ref s4') := by
      refine GoodVal.lf (goodVal_tup hs4 (fun x hx => ?_) ?_) P10
      · rcases List.mem_append.mp hx with z | z
        · rcases List.mem_append.mp z with z | z
          · exact (B5.good x (mem_cut z)).lf L10
          · rw [List.mem_singleton.mp z]; exact hy.lf L10
        · exact (B5.good x (mem_cut z)).lf L10
      · rw [List.length_append, List.length_append, List.length_singleton]; omega
    refine ⟨vals' ++ [.ref s4'], _, rfl, F5.trans ((Fr.of tt).trans (Fr.upd (List.mem_singleton.mpr rfl) (by rw [tt _ _ hvl5]; simp))), ?_, upd_same, fun v hv => ?_, by rw [List.length_append, List.length_singleton, hl5, Nat.add_assoc], fun v hv => (hr5 v hv).lf L11⟩
    · rw [upd_ne nlv]; exact tt _ _ hlt5
    · rcases List.mem_append.mp hv with z | z
      · exact (hgv5 v z).lf L11
      · rw [List.mem_singleton.mp z]; exact gnew
  · rintro σ H5 ⟨vals', v14', rfl, F5, hlt5, hvl5, hgv5, hl5, hr5⟩
    exact k vals' v14' H5 F5 hvl5 hgv5 (by rw [hl5, hrl]; exact Nat.le_refl _)
theorem ps_rf6 {A : Around} {outer : List Env} {s : Shared} {H : Hp} {E : XK} {cdv : Value} (T : Tx mg) :
    PS (cxOf CX0 P w K mg base nLaw "law" (defScope sLaw) f cdv A outer s H E).nox (turnBody.getD 6 (.Pass ⟨0, 0, 0, 0⟩)) (tRF K 6) := by
  refine psImp (t := _) (ps_for PassesOwn.never rfl (pi_list (pe_disp6 T)) (pg_name (i := 14) scLaw.nd rfl (.inl rfl))
    (pss_one (ps_expr (pe_bm PySem.F.plainAttrs_list PySem.F.slot_list_append PySem.F.type_list_append mt_append (pv 9) (pa_cons (pe_op op_cat2 (pe_op op_cat2 (pe_slice sl_cut (pv 4) po_none (po_some (pv 11))) (pe_tup (pa_cons (pv 14) pa_nil)))
      (pe_slice sl_cut (pv 4) (po_some (pe_op op_add (pv 11) pe_int)) po_none)) pa_nil))))) ?_
  rintro D σ H ⟨v0, v1, v3, v6, v7, v8, v10, v12, v13, v14, v15, pa, a, pxs, xs, kk, at_, vl, vals, rfl, hpq, B, hat, hvl, hgv, hlen, k⟩
  refine ⟨⟨v0, v1, v3, v6, v7, v8, _, v10, v12, v13, v14, v15, pa, a, pxs, xs, kk, at_, rfl, hpq, B, hat⟩, fun rows H1 s1 hrows hrl => ⟨by rw [hrl]; decide, fun lt hlt => ?_⟩⟩
  have s2 := same_new (o := .lst rows) hlt
  have s12 := s1.trans s2
  have nlv : lt ≠ vl := (ne_of_none (s1 _ _ hvl) hlt).symm
  refine ⟨lt, rfl, ⟨_, SqL.of upd_same⟩, for_list (K := K) (a := lt) (xs := rows) (fun i σ H5 => ∃ vals' v14', σ = stL v0 v1 (some (.ref pa)) v3 (some (.ref a)) (some (.int (kk : Nat))) v6 v7 v8 (some (.ref vl)) v10 (some (.int (at_ : Nat))) v12 v13 v14' v15 ∧ Fr [vl] H H5 ∧ H5 lt = some (.lst rows) ∧ H5 vl = some (.lst vals') ∧ (∀ v ∈ vals', GoodVal K H5 v) ∧ vals'.length = vals.length + i ∧ (∀ v ∈ rows, GoodRow K H5 v))
    ⟨vals, _, rfl, Fr.of s12, upd_same, s12 _ _ hvl, fun v hv => (hgv v hv).lf (Lf.of (Gr.of s12)), rfl, fun v hv => (hrows v hv).lf (Lf.of (Gr.of s2))⟩ (fun i σ H5 _ ⟨_, _, _, _, e, _⟩ => SqL.of e) ?_ ?_⟩
  · rintro i y σ H5 hi ⟨vals', v14', rfl, F5, hlt5, hvl5, hgv5, hl5, hr5⟩
    have hil : i < 6 := by have := (List.getElem?_eq_some_iff.mp hi).1; omega
    have hy := hr5 y (List.mem_of_getElem? hi)
    have L5 : Lf H H5 := Lf.frow F5 hvl hvl5
    have B5 := B.lf L5
    have h60 := B5.l60
    refine ⟨_, rfl, .inl ⟨rfl, _, SqL.of hvl5⟩, ?_⟩
    refine ⟨_, rfl, _, rfl, _, rfl, a, xs, rfl, B5.ob, fun s1' H6 t6 hs1 => ?_⟩
    refine ⟨_, rfl, (by show 1 ≤ sizeLine; decide), fun t ht => ?_⟩
    have t7 := same_new (o := .tup [y]) ht
    have c1 := cutV_length xs none (some (at_ : Int))
    have c2 := cutV_length xs (some ((at_ : Int) + 1)) none
    refine ⟨s1', t, _, _, rfl, rfl, t7 _ _ hs1, upd_same, (by rw [List.length_singleton, sizeLine_eq]; omega), fun s2' H8 t8 hs2 => ?_⟩
    have t58 := t6.trans (t7.trans t8)
    refine ⟨_, rfl, _, rfl, _, _, rfl, rfl, _, rfl, a, xs, rfl, t58 _ _ B5.ob, fun s3' H9 t9 hs3 => ?_⟩
    refine ⟨s2', s3', _, _, rfl, rfl, t9 _ _ hs2, hs3, (by rw [List.length_append, List.length_singleton, sizeLine_eq]; omega), fun s4' H10 t10 hs4 => ?_⟩
    have tt := t58.trans (t9.trans t10)
    refine ⟨vl, vals', _, rfl, rfl, tt _ _ hvl5, small1000 (by omega) |> fun z => (by rw [sizeLine_eq]; omega), ?_⟩
    have L10 : Lf H5 H10 := Lf.of (Gr.of tt)
    have P10 : Lf H10 (upd H10 vl (.lst (vals' ++ [.ref s4']))) := Lf.put (tt _ _ hvl5)
    have L11 := L10.trans P10
    have gnew : GoodVal K (upd H10 vl (.lst (vals' ++ [.ref s4']))) (.ref s4') := by
      refine GoodVal.lf (goodVal_tup hs4 (fun x hx => ?_) ?_) P10
      · rcases List.mem_append.mp hx with z | z
        · rcases List.mem_append.mp z with z | z
          · exact (B5.good x (mem_cut z)).lf L10
          · rw [List.mem_singleton.mp z]; exact hy.lf L10
        · exact (B5.good x (mem_cut z)).lf L10
      · rw [List.length_append, List.length_append, List.length_singleton]; omega
    refine ⟨vals' ++ [.ref s4'], _, rfl, F5.trans ((Fr.of tt).trans (Fr.upd (List.mem_singleton.mpr rfl) (by rw [tt _ _ hvl5]; simp))), ?_, upd_same, fun v hv => ?_, by rw [List.length_append, List.length_singleton, hl5, Nat.add_assoc], fun v hv => (hr5 v hv).lf L11⟩
    · rw [upd_ne nlv]; exact tt _ _ hlt5
    · rcases List.mem_append.mp hv with z | z
      · exact (hgv5 v z).lf L11
      · rw [List.mem_singleton.mp z]; exact gnew
  · rintro σ H5 ⟨vals', v14', rfl, F5, hlt5, hvl5, hgv5, hl5, hr5⟩
    exact k vals' v14' H5 F5 hvl5 hgv5 (by rw [hl5, hrl]; exact Nat.le_refl _)
end
end Fair
end

section
set_option Elab.async false
set_option linter.all false
set_option maxRecDepth 100000
set_option maxHeartbeats 4000000
/-! The law: the three turns, whole. -/
namespace Fair
open PySem PySem.Spec L2 FM
def tTurns (K : PySem.W.Frag) : TS := fun D σ H => ∃ (v0 v3 v5 v6 v7 v8 : Option V) (row sc pa a vl : Addr) (ns : List Int) (ps : PR) (xs vals : List V),
  σ = stL v0 (some (.ref row)) (some (.ref pa)) v3 (some (.ref a)) v5 v6 v7 v8 (some (.ref vl)) none none none none none none ∧ Led K H row sc ns ∧ PairsAt K H (.ref pa) ps ∧ OkC ps ∧ BaseOk H a xs ∧ H vl = some (.lst vals) ∧ (∀ v ∈ vals, GoodVal K H v) ∧ vals.length ≤ 100 ∧ vl ≠ row ∧ Off K vl sc (ns.map V.int) ∧
  ∀ v5' v10 v11 v12 v13 v14 vals' H', Lf H H' → H' vl = some (.lst vals') → (∀ v ∈ vals', GoodVal K H' v) → vals'.length ≤ 200 → D.nx (stL v0 (some (.ref row)) (some (.ref pa)) v3 (some (.ref a)) v5' v6 v7 v8 (some (.ref vl)) v10 v11 v12 v13 v14 none) H'
section
variable {P : Program} {w : World} {K : PySem.W.Frag} {mg : Str → Option Value} {base : Heap} {f C : Addr} {fd : FuncData}
theorem ps_turns {A : Around} {outer : List Env} {s : Shared} {H : Hp} {E : XK} {cdv : Value} {f1 : Addr} {fd1 : FuncData} (T : Tx mg) (hr : Room 1 (A.deeper (PyProof.Rows.envOfC "law" (defScope sLaw) s.heap.objs.size f cdv)))
    (G1 : FnOk P w K mg base CX0 1 f1 fd1 ["_law_row", "_law_many"] (spTaken K)) (g1 : mg "_law_taken" = some (.ref f1)) (kp1 : PySem.W.keepIn K (.ref f1) = true) (b1 : Binds K fd1 ["_law_row", "_law_many"] []) :
    PS (cxOf CX0 P w K mg base nLaw "law" (defScope sLaw) f cdv A outer s H E).nox (lawAt 5) (tTurns K) := by
  refine psImp (t := _) (ps_for PassesOwn.never rfl (pi_range1 rfl T.range (pa_cons pe_int pa_nil)) (pg_name (i := 10) scLaw.nd rfl (.inl rfl))
    (pss_cons (ps_par (i := 11) (j := 12) (by rfl) scLaw.nd rfl rfl (by decide) rfl rfl (pa_cons (pe_call G1 hr rfl g1 kp1 b1 .nil pass0 (pa_cons (pv 1) (pa_cons (pe_callB call_len_seq rfl T.len PySem.boot_len (pa_cons (pv 4) pa_nil)) pa_nil)))
        (pa_cons (pe_call G1 hr rfl g1 kp1 b1 .nil pass0 (pa_cons (pv 1) (pa_cons (pe_callB call_len_seq rfl T.len PySem.boot_len (pa_cons (pv 4) pa_nil)) pa_nil))) pa_nil)) (by rfl))
    (pss_cons (ps_set (i := 13) scLaw.nd rfl (.inl rfl) (pe_callTy call_list_of rfl T.list (by decide +kernel) (pa_cons (pv 4) pa_nil)))
    (pss_cons (ps_asg (pe_tup (pa_cons (pe_ix ix_tup (pv 4) (pv 12) (fun _ _ => rfl)) (pa_cons (pe_ix ix_tup (pv 4) (pv 11) (fun _ _ => rfl)) pa_nil))) (pg_tup (by rfl) (pgs_cons (pg_sub (pv 13) (pv 11) set_list (fun _ => rfl)) (pgs_cons (pg_sub (pv 13) (pv 12) set_list (fun _ => rfl)) pgs_nil))))
    (pss_cons (ps_expr (pe_bm PySem.F.plainAttrs_list PySem.F.slot_list_append PySem.F.type_list_append mt_append (pv 9) (pa_cons (pe_callTy call_tuple_of rfl T.tuple (by decide +kernel) (pa_cons (pv 13) pa_nil)) pa_nil)))
    (pss_cons (ps_set (i := 5) scLaw.nd rfl (.inr rfl) (pe_call G1 hr rfl g1 kp1 b1 .nil pass0 (pa_cons (pv 1) (pa_cons (pe_callB call_len_seq rfl T.len PySem.boot_len (pa_cons (pv 2) pa_nil)) pa_nil))))
    (pss_cons (show PS _ (turnBody.getD 5 (.Pass ⟨0, 0, 0, 0⟩)) (tRF K 3) from ps_rf5 T)
    (pss_one (show PS _ (turnBody.getD 6 (.Pass ⟨0, 0, 0, 0⟩)) (tRF K 6) from ps_rf6 T))))))))) ?_
  rintro D σ H ⟨v0, v3, v5, v6, v7, v8, row, sc, pa, a, vl, ns, ps, xs, vals, rfl, led, hp, ok, B, hvl, hgv, hlen, nvr, off, k⟩
  have h60 := B.l60
  have h1l := B.l1
  refine ⟨3, rfl, by decide, by decide, ?_⟩
  refine for_range (lo := 0) (n := (3 : Int).toNat) (fun i σ H5 => ∃ v5 v10 v11 v12 v13 v14 vals', σ = stL v0 (some (.ref row)) (some (.ref pa)) v3 (some (.ref a)) v5 v6 v7 v8 (some (.ref vl)) v10 v11 v12 v13 v14 none ∧ Lf H H5 ∧ Led K H5 row sc ns ∧ H5 vl = some (.lst vals') ∧ (∀ v ∈ vals', GoodVal K H5 v) ∧ vals'.length ≤ 100 + 10 * i)
    ⟨_, _, _, _, _, _, vals, rfl, Lf.refl H, led, hvl, hgv, by omega⟩ ?_ ?_
  · rintro i σ H5 hi ⟨v5, v10, v11, v12, v13, v14, vals', rfl, L5, led5, hvl5, hgv5, hl5⟩
    have hi3 : i < 3 := hi
    have B5 := B.lf L5
    obtain ⟨rx5, hrow5⟩ := led5.row'
    -- at, other
    refine ⟨_, rfl, _, rfl, a, xs, rfl, .inr (SqT.of B5.ob), row, sc, ns, xs.length, rfl, led5, h1l, by omega, fun r1 H6 hr1 led6 fr6 => ?_⟩
    obtain ⟨rx6, hrow6⟩ := led6.row'
    have L6 : Lf H5 H6 := Lf.frow fr6 hrow5 hrow6
    have B6 := B5.lf L6
    refine ⟨_, rfl, _, rfl, a, xs, rfl, .inr (SqT.of B6.ob), row, sc, ns, xs.length, rfl, led6, h1l, by omega, fun r2 H7 hr2 led7 fr7 => ?_⟩
    obtain ⟨rx7, hrow7⟩ := led7.row'
    have L7 : Lf H6 H7 := Lf.frow fr7 hrow6 hrow7
    have B7 := B6.lf L7
    have hvl7 : H7 vl = some (.lst vals') := fr7.kp _ _ (fr6.kp _ _ hvl5 (fun z => nvr (List.mem_singleton.mp z))) (fun z => nvr (List.mem_singleton.mp z))
    refine ⟨_, _, rfl, ?_⟩
    -- swapped = list(base)
    refine ⟨_, rfl, a, xs, rfl, .inr (SqT.of B7.ob), fun sw hsw => ?_⟩
    have s8 := same_new (o := .lst xs) hsw
    have nsr : sw ≠ row := (ne_of_none hrow7 hsw).symm
    have nsv : sw ≠ vl := (ne_of_none hvl7 hsw).symm
    have offS : Off K sw sc (ns.map V.int) := off_new led7.q' hsw
    have e1 : xs[r1]? = some xs[r1] := List.getElem?_eq_getElem hr1
    have e2 : xs[r2]? = some xs[r2] := List.getElem?_eq_getElem hr2
    -- swapped[at], swapped[other] = base[other], base[at]
    refine ⟨_, rfl, _, rfl, a, xs, _, _, rfl, rfl, SqT.of (s8 _ _ B7.ob), atI_nat e2, _, rfl, _, rfl, a, xs, _, _, rfl, rfl, SqT.of (s8 _ _ B7.ob), atI_nat e1, (by show 2 ≤ sizeLine; decide), fun t ht => ?_⟩
    have s9 := same_new (o := .tup [xs[r2], xs[r1]]) ht
    have hsw9 : L2.upd (L2.upd H7 sw (.lst xs)) t (.tup [xs[r2], xs[r1]]) sw = some (.lst xs) := s9 _ _ upd_same
    refine ⟨t, _, rfl, SqT.of upd_same, rfl, _, _, rfl, _, rfl, _, rfl, sw, xs, _, r1, rfl, rfl, hsw9, ixN_nat hr1, ?_⟩
    refine ⟨_, _, rfl, _, rfl, _, rfl, sw, xs.set r1 xs[r2], _, r2, rfl, rfl, upd_same, ixN_nat (by rw [List.length_set]; exact hr2), rfl, ?_⟩
    rw [upd_upd]
    have led9 := (led7.same s8).same s9
    have led10 := led9.put (o := .lst ((xs.set r1 xs[r2]).set r2 xs[r1])) nsr offS
    have P10 : Lf (L2.upd (L2.upd H7 sw (.lst xs)) t (.tup [xs[r2], xs[r1]])) (L2.upd (L2.upd (L2.upd H7 sw (.lst xs)) t (.tup [xs[r2], xs[r1]])) sw (.lst ((xs.set r1 xs[r2]).set r2 xs[r1]))) := Lf.put hsw9
    have L710 : Lf H7 (L2.upd (L2.upd (L2.upd H7 sw (.lst xs)) t (.tup [xs[r2], xs[r1]])) sw (.lst ((xs.set r1 xs[r2]).set r2 xs[r1]))) := (Lf.of (Gr.of (s8.trans s9))).trans P10
    have hvl10 : L2.upd (L2.upd (L2.upd H7 sw (.lst xs)) t (.tup [xs[r2], xs[r1]])) sw (.lst ((xs.set r1 xs[r2]).set r2 xs[r1])) vl = some (.lst vals') := by
      rw [upd_ne nsv.symm]; exact (s8.trans s9) _ _ hvl7
    have hsw10 : L2.upd (L2.upd (L2.upd H7 sw (.lst xs)) t (.tup [xs[r2], xs[r1]])) sw (.lst ((xs.set r1 xs[r2]).set r2 xs[r1])) sw = some (.lst ((xs.set r1 xs[r2]).set r2 xs[r1])) := upd_same
    generalize L2.upd (L2.upd (L2.upd H7 sw (.lst xs)) t (.tup [xs[r2], xs[r1]])) sw (.lst ((xs.set r1 xs[r2]).set r2 xs[r1])) = H10 at led10 L710 hvl10 hsw10
    have B10 := B7.lf L710
    -- values.append(tuple(swapped))
    refine ⟨_, rfl, .inl ⟨rfl, _, SqL.of hvl10⟩, ?_⟩
    refine ⟨_, rfl, sw, _, rfl, .inl ⟨SqL.of hsw10, fun t2 ht2 => ?_⟩⟩
    have s11 := same_new (o := .tup ((xs.set r1 xs[r2]).set r2 xs[r1])) ht2
    refine ⟨vl, vals', _, rfl, rfl, s11 _ _ hvl10, (by rw [sizeLine_eq]; omega), ?_⟩
    have P12 : Lf (L2.upd H10 t2 (.tup ((xs.set r1 xs[r2]).set r2 xs[r1]))) (L2.upd (L2.upd H10 t2 (.tup ((xs.set r1 xs[r2]).set r2 xs[r1]))) vl (.lst (vals' ++ [.ref t2]))) := Lf.put (s11 _ _ hvl10)
    have L1012 := (Lf.of (Gr.of s11)).trans P12
    have led12 := (led10.same s11).put (o := .lst (vals' ++ [.ref t2])) nvr off
    have L512 := L6.trans (L7.trans (L710.trans L1012))
    have gnew : GoodVal K (L2.upd (L2.upd H10 t2 (.tup ((xs.set r1 xs[r2]).set r2 xs[r1]))) vl (.lst (vals' ++ [.ref t2]))) (.ref t2) := by
      refine GoodVal.lf (goodVal_tup upd_same (fun x hx => ?_) (by rw [List.length_set, List.length_set]; omega)) P12
      refine GoodRow.lf (B10.good x ?_) (Lf.of (Gr.of s11))
      rcases List.mem_or_eq_of_mem_set hx with z | z
      · rcases List.mem_or_eq_of_mem_set z with z | z
        · exact z
        · rw [z]; exact List.getElem_mem _
      · rw [z]; exact List.getElem_mem _
    have hvl12 : L2.upd (L2.upd H10 t2 (.tup ((xs.set r1 xs[r2]).set r2 xs[r1]))) vl (.lst (vals' ++ [.ref t2])) vl = some (.lst (vals' ++ [.ref t2])) := upd_same
    have hgv12 : ∀ v ∈ vals' ++ [V.ref t2], GoodVal K (L2.upd (L2.upd H10 t2 (.tup ((xs.set r1 xs[r2]).set r2 xs[r1]))) vl (.lst (vals' ++ [.ref t2]))) v := fun v hv => by
      rcases List.mem_append.mp hv with z | z
      · exact (hgv5 v z).lf L512
      · rw [List.mem_singleton.mp z]; exact gnew
    generalize L2.upd (L2.upd H10 t2 (.tup ((xs.set r1 xs[r2]).set r2 xs[r1]))) vl (.lst (vals' ++ [.ref t2])) = H12 at led12 L512 hvl12 hgv12
    -- k = taken(row, len(pairs))
    have hp12 := (L5.trans L512).pairs hp
    cases hp12 with
    | @mk _ pxs _ hq12 ht12 hpp12 =>
    have hpl := paired_len hpp12
    refine ⟨_, rfl, _, rfl, pa, pxs, rfl, .inr hq12, row, sc, ns, pxs.length, rfl, led12, (by have := ok.l1; omega), (by have := ok.l4; omega), fun kk H13 hkk led13 fr13 => ?_⟩
    obtain ⟨rx12, hrow12⟩ := led12.row'
    obtain ⟨rx13, hrow13⟩ := led13.row'
    have L13 : Lf H12 H13 := Lf.frow fr13 hrow12 hrow13
    have hvl13 : H13 vl = some (.lst (vals' ++ [.ref t2])) := fr13.kp _ _ hvl12 (fun z => nvr (List.mem_singleton.mp z))
    have B13 := B.lf ((L5.trans L512).trans L13)
    -- the two loops over rows
    refine ⟨_, _, _, _, _, _, _, _, _, _, _, pa, a, pxs, xs, kk, r1, vl, _, rfl, L13.seqT hq12, B13, hr1, hvl13, fun v hv => (hgv12 v hv).lf L13, by rw [List.length_append, List.length_singleton]; omega, fun vals2 v14' H14 fr14 hvl14 hgv14 hl14 => ?_⟩
    have L14 : Lf H13 H14 := Lf.frow fr14 hvl13 hvl14
    have led14 : Led K H14 row sc ns := by
      obtain ⟨i', sd, b, q1, q2, q3, q4, e, q, n⟩ := led13
      refine ⟨i', sd, b, q1, q2, q3, q4, fr14.kp _ _ e (fun z => nvr (List.mem_singleton.mp z).symm), ?_, n⟩
      have := off H14 (.lst vals2)
      by_cases hsv : sc = vl
      · -- the script is no list of the law's own
        have q5 := off H13 (.tup []) q
        rcases q5 with (z | ⟨u, z⟩) | z
        · rw [hsv, upd_same] at z; cases z
        · rw [hsv, upd_same] at z; cases z
        · exact .inr z
      · exact fr14.seqL q (fun z => hsv (List.mem_singleton.mp z))
    refine ⟨_, _, _, _, _, _, _, _, _, _, _, pa, a, pxs, xs, kk, r1, vl, _, rfl, (L13.trans L14).seqT hq12, B13.lf L14, hr1, hvl14, hgv14, by rw [List.length_append, List.length_singleton] at hl14; omega, fun vals3 v14'' H15 fr15 hvl15 hgv15 hl15 => ?_⟩
    have L15 : Lf H14 H15 := Lf.frow fr15 hvl14 hvl15
    have led15 : Led K H15 row sc ns := by
      obtain ⟨i', sd, b, q1, q2, q3, q4, e, q, n⟩ := led14
      refine ⟨i', sd, b, q1, q2, q3, q4, fr15.kp _ _ e (fun z => nvr (List.mem_singleton.mp z).symm), ?_, n⟩
      by_cases hsv : sc = vl
      · have q5 := off H14 (.tup []) q
        rcases q5 with (z | ⟨u, z⟩) | z
        · rw [hsv, upd_same] at z; cases z
        · rw [hsv, upd_same] at z; cases z
        · exact .inr z
      · exact fr15.seqL q (fun z => hsv (List.mem_singleton.mp z))
    refine ⟨_, _, _, _, _, _, vals3, rfl, L5.trans (L512.trans (L13.trans (L14.trans L15))), led15, hvl15, hgv15, ?_⟩
    rw [List.length_append, List.length_singleton] at hl14
    omega
  · rintro σ H5 ⟨v5, v10, v11, v12, v13, v14, vals', rfl, L5, led5, hvl5, hgv5, hl5⟩
    refine k v5 v10 v11 v12 v13 v14 vals' H5 L5 hvl5 hgv5 ?_
    have : vals'.length ≤ 100 + 10 * 3 := hl5
    omega
end
end Fair
end

section
set_option Elab.async false
set_option linter.all false
set_option maxRecDepth 100000
set_option maxHeartbeats 4000000
/-! The law. -/
namespace Fair
open PySem PySem.Spec L2 FM
def spFair1 (K : PySem.W.Frag) (Pt : Addr) : Sp := fun vs H Q _ => ∃ (x : V) (ps : PR) (m : Nat), vs = [x, .int (m : Nat)] ∧ PairsAt K H x ps ∧ OkC ps ∧ 1 ≤ m ∧ m ≤ 4 ∧ GxR.TabG H Pt ∧
  ∀ v H', Gr H H' → (v = .non ∨ ∃ a B, v = .ref a ∧ BaseAt H' a B ∧ Base ps.length (cyc ps) B ∧ Seg ps (cyc ps) B) → Q v H'
def spLaw (K : PySem.W.Frag) (P1 P2 P3 : Addr) : Sp := fun vs H Q _ => ∃ (sc : Addr) (ns : List Int), vs = [.ref sc] ∧ SqL K H sc (ns.map V.int) ∧ GxR.TabG H P1 ∧ GxR.TabG H P2 ∧ GxR.TabG H P3 ∧ ∀ H', Q (.bl true) H'
/-- 1 + _law_taken(_law_row, 4) -/
def tMach (K : PySem.W.Frag) : TE := fun σ H Q => ∃ (row sc : Addr) (ns : List Int), σ[1]? = some (some (V.ref row)) ∧ Led K H row sc ns ∧ ∀ (r : Nat) H', r < 4 → Led K H' row sc ns → Fr [row] H H' → Q (.int ((1 + r : Nat) : Int)) H'
theorem mach_imp {K : PySem.W.Frag} : ∀ σ H Q, tMach K σ H Q → tOp (rI0 fun i j => .int (i + j)) (tC (.int 1)) (tCall (spTaken K) [] E0 (tCons (tVar 1) (tCons (tC (.int 4)) tNil))) σ H Q := by
  rintro σ H Q ⟨row, sc, ns, e, led, k⟩
  refine ⟨_, e, row, sc, ns, 4, rfl, led, by decide, by decide, fun r H' hr led' fr => ⟨_, _, rfl, rfl, ?_⟩⟩
  show Q (.int ((1 : Int) + (r : Int))) H'
  rw [show (1 : Int) + (r : Int) = ((1 + r : Nat) : Int) by omega]
  exact k r H' hr led' fr
section
variable {P : Program} {w : World} {K : PySem.W.Frag} {mg : Str → Option Value} {base : Heap} {f C : Addr} {fd : FuncData}
theorem ok_law {P1 P2 P3 f1 f2 f3 f4 f5 f6 f7 : Addr} {fd1 fd2 fd3 fd4 fd5 fd6 fd7 : FuncData} (F : FnP K "law" "law" sLaw f fd) (T : Tx mg)
    (G1 : FnOk P w K mg base CX0 1 f1 fd1 ["_law_row", "_law_many"] (spTaken K)) (g1 : mg "_law_taken" = some (.ref f1)) (kp1 : PySem.W.keepIn K (.ref f1) = true) (b1 : Binds K fd1 ["_law_row", "_law_many"] [])
    (G2 : FnOk P w K mg base CX0 3 f2 fd2 ["_law_row"] (spPairs K)) (g2 : mg "_law_pairs" = some (.ref f2)) (kp2 : PySem.W.keepIn K (.ref f2) = true) (b2 : Binds K fd2 ["_law_row"] [])
    (G3 : FnOk P w K mg base CX0 5 f3 fd3 ["pairs", "machines"] (spFair K C P2)) (g3 : mg "fair_schedule" = some (.ref f3)) (kp3 : PySem.W.keepIn K (.ref f3) = true) (b3 : Binds K fd3 ["pairs", "machines"] [])
    (G4 : FnOk P w K mg base CX0 1 f4 fd4 ["_law_pairs_here"] (spLCycle K)) (g4 : mg "_law_cycle" = some (.ref f4)) (kp4 : PySem.W.keepIn K (.ref f4) = true) (b4 : Binds K fd4 ["_law_pairs_here"] [])
    (G5 : FnOk P w K mg base CX0 1 f5 fd5 ["_law_found", "_law_due"] spAlike) (g5 : mg "_law_alike" = some (.ref f5)) (kp5 : PySem.W.keepIn K (.ref f5) = true) (b5 : Binds K fd5 ["_law_found", "_law_due"] [])
    (G6 : FnOk P w K mg base CX0 5 f6 fd6 ["pairs", "machines", "value"] (spShows K P1 P3)) (g6 : mg "shows_fair" = some (.ref f6)) (kp6 : PySem.W.keepIn K (.ref f6) = true) (b6 : Binds K fd6 ["pairs", "machines", "value"] [])
    (G7 : FnOk P w K mg base CX0 2 f7 fd7 ["_law_pairs_here", "_law_machines", "_law_value"] (spIsFair K)) (g7 : mg "_law_is_fair" = some (.ref f7)) (kp7 : PySem.W.keepIn K (.ref f7) = true) (b7 : Binds K fd7 ["_law_pairs_here", "_law_machines", "_law_value"] []) :
    FnOk P w K mg base CX0 6 f fd ["_law_script"] (spLaw K P1 P2 P3) := by
  have G3' : FnOk P w K mg base CX0 5 f3 fd3 ["pairs", "machines"] (spFair1 K P2) := G3.imp fun vs H Q E ⟨x, ps, m, e, hp, ok, h1, h4, tb, k⟩ =>
    ⟨x, ps, m, e, hp, ok, h1, h4, tb, fun H' g => k _ H' g (.inl rfl), fun a B H' g q1 q2 q3 => k _ H' g (.inr ⟨a, B, rfl, q1, q2, q3⟩)⟩
  refine okN F scLaw (fun vs H Q E h => ?_) (fun cdv A outer s H vs Q E hr h => ?_)
  · obtain ⟨sc, ns, rfl, _⟩ := h
    rfl
  · obtain ⟨sc, ns, rfl, hsc, tb1, tb2, tb3, k⟩ := h
    have hr1 : Room 1 _ := hr.mono (by decide)
    have hr2 : Room 2 _ := hr.mono (by decide)
    have hr3 : Room 3 _ := hr.mono (by decide)
    refine ⟨_, pss_cons (ps_set (i := 1) scLaw.nd rfl (.inl rfl) (pe_lst (pa_cons (pv 0) (pa_cons pe_int (pa_cons pe_int (pa_cons pe_int pa_nil))))))
      (pss_cons (ps_asg (pe_tup (pa_cons (pe_call G2 hr3 rfl g2 kp2 b2 .nil pass0 (pa_cons (pv 1) pa_nil)) (pa_cons (peImp (t' := tMach K) (pe_op op_add pe_int (pe_call G1 hr1 rfl g1 kp1 b1 .nil pass0 (pa_cons (pv 1) (pa_cons pe_int pa_nil)))) mach_imp) pa_nil)))
        (pg_tup (by rfl) (pgs_cons (pg_name (i := 2) scLaw.nd rfl (.inr rfl)) (pgs_cons (pg_name (i := 3) scLaw.nd rfl (.inl rfl)) pgs_nil))))
      (pss_cons (ps_set (i := 4) scLaw.nd rfl (.inl rfl) (pe_call G3' hr rfl g3 kp3 b3 .nil pass0 (pa_cons (pv 2) (pa_cons (pv 3) pa_nil))))
      (pss_cons (show PS _ (lawAt 3) (tChk K) from ps_chk T hr1 G4 g4 kp4 b4)
      (pss_cons (show PS _ (lawAt 4) (tAsg (tLst (tGGs PreV (GoodVal K) 10)) (gName 9)) from ps_values T)
      (pss_cons (show PS _ (lawAt 5) (tTurns K) from ps_turns T hr1 G1 g1 kp1 b1)
      (pss_cons (ps_for PassesOwn.never rfl (pi_list (pv 9)) (pg_name (i := 15) scLaw.nd rfl (.inl rfl))
        (pss_one (ps_if (pt_not (pt_val (pe_call G5 hr1 rfl g5 kp5 b5 .nil pass0 (pa_cons (pe_call G6 hr rfl g6 kp6 b6 .nil pass0 (pa_cons (pv 2) (pa_cons (pv 3) (pa_cons (pv 15) pa_nil))))
          (pa_cons (pe_call G7 hr2 rfl g7 kp7 b7 .nil pass0 (pa_cons (pv 2) (pa_cons (pv 3) (pa_cons (pv 15) pa_nil)))) pa_nil))))) (pss_one (ps_ret pe_bl)) pss_nil)))
      (pss_one (ps_ret pe_bl)))))))), ?_⟩
    -- _law_row = [_law_script, 0, 3253, 0]
    refine ⟨_, rfl, (by show 4 ≤ sizeLine; decide), fun row hrow => ?_⟩
    have s1 := same_new (o := .lst [.ref sc, .int 0, .int 3253, .int 0]) hrow
    have led1 : Led K (L2.upd H row (.lst [.ref sc, .int 0, .int 3253, .int 0])) row sc ns := ⟨0, 3253, 0, by decide, by decide, by decide, by decide, upd_same, s1.seq hsc, off_new hsc hrow⟩
    obtain ⟨rx1, hrow1⟩ := led1.row'
    -- pairs, machines
    refine ⟨_, rfl, row, sc, ns, rfl, led1, fun x ps H2 ok hp2 led2 fr2 => ?_⟩
    obtain ⟨rx2, hrow2⟩ := led2.row'
    have L2' : Lf _ H2 := Lf.frow fr2 hrow1 hrow2
    refine ⟨row, sc, ns, rfl, led2, fun r H3 hr3' led3 fr3 => ?_⟩
    obtain ⟨rx3, hrow3⟩ := led3.row'
    have L3 : Lf H2 H3 := Lf.frow fr3 hrow2 hrow3
    refine ⟨(by show 2 ≤ sizeLine; decide), fun t ht => ?_⟩
    have s4 := same_new (o := .tup [x, .int ((1 + r : Nat) : Int)]) ht
    refine ⟨t, _, rfl, SqT.of upd_same, rfl, _, _, rfl, _, _, rfl, rfl, ?_⟩
    have led4 := led3.same s4
    have L14 : Lf H (L2.upd H3 t (.tup [x, .int ((1 + r : Nat) : Int)])) := (Lf.of (Gr.of s1)).trans (L2'.trans (L3.trans (Lf.of (Gr.of s4))))
    have hp4 := (L3.trans (Lf.of (Gr.of s4))).pairs hp2
    generalize L2.upd H3 t (.tup [x, .int ((1 + r : Nat) : Int)]) = H4 at led4 L14 hp4
    -- base = fair_schedule(pairs, machines)
    refine ⟨_, rfl, _, rfl, x, ps, 1 + r, rfl, hp4, ok, by omega, by omega, L14.tb _ tb2, fun vb H5 gr5 hvb => ?_⟩
    have led5 : Led K H5 row sc ns := by
      obtain ⟨i, sd, b, q1, q2, q3, q4, e, q, n⟩ := led4
      exact ⟨i, sd, b, q1, q2, q3, q4, gr5.kp _ _ e (fun ps z => by cases z), gr5.seqL q, n⟩
    refine ⟨_, _, _, x, vb, ps, rfl, gr5.pairs hp4, ok, hvb, fun a xs v5 v6 v7 v8 H6 gr6 B6 => ?_⟩
    have led6 : Led K H6 row sc ns := by
      obtain ⟨i, sd, b, q1, q2, q3, q4, e, q, n⟩ := led5
      exact ⟨i, sd, b, q1, q2, q3, q4, gr6.kp _ _ e (fun ps z => by cases z), gr6.seqL q, n⟩
    -- values
    refine ⟨⟨a, xs, rfl, B6⟩, fun vals H7 s7 gv7 hl7 => ⟨by rw [hl7]; decide, fun vl hvl => ?_⟩⟩
    have s8 := same_new (o := .lst vals) hvl
    have led7 := led6.same s7
    obtain ⟨rx7, hrow7⟩ := led7.row'
    have nvr : vl ≠ row := (ne_of_none hrow7 hvl).symm
    have g48 : Gr H4 (L2.upd H7 vl (.lst vals)) := gr5.trans (gr6.trans (Gr.of (s7.trans s8)))
    have hp8 := g48.pairs hp4
    have hp80 := hp8
    cases hp8 with
    | @mk pa pxs _ hq8 ht8 hpp8 =>
    refine ⟨_, _, _, _, _, _, row, sc, pa, a, vl, ns, ps, xs, vals, rfl, led7.same s8, hp80, ok, B6.lf (Lf.of (Gr.of (s7.trans s8))), upd_same, fun v hv => (gv7 v hv).lf (Lf.of (Gr.of s8)), by omega, nvr, off_new led7.q' hvl, fun v5' v10 v11 v12 v13 v14 vals' H9 L9 hvl9 gv9 hl9 => ?_⟩
    -- for value in values
    have L49 : Lf H H9 := L14.trans ((Lf.of g48).trans L9)
    have hp9 := L9.pairs hp80
    refine ⟨_, rfl, vl, rfl, ⟨_, SqL.of hvl9⟩, for_list (K := K) (a := vl) (xs := vals') (fun i σ H8 => ∃ v15, σ = stL (some (.ref sc)) (some (.ref row)) (some (.ref pa)) (some (.int ((1 + r : Nat) : Int))) (some (.ref a)) v5' v6 v7 v8 (some (.ref vl)) v10 v11 v12 v13 v14 v15 ∧ Gr H9 H8) ⟨_, rfl, Gr.refl H9⟩ (fun i σ H8 _ ⟨_, _, g⟩ => g.seqL (SqL.of hvl9)) ?_ ?_⟩
    · rintro i v σ H8 hi ⟨v15, rfl, g8⟩
      obtain ⟨rv, hv9⟩ := gv9 v (List.mem_of_getElem? hi)
      refine ⟨_, rfl, _, rfl, _, rfl, .ref pa, v, ps, 1 + r, rv, rfl, g8.pairs hp9, ok, by omega, by omega, g8.val hv9, g8.tb _ (L49.tb _ tb1), g8.tb _ (L49.tb _ tb3), fun c1 H10 hc1 g10 => ?_⟩
      have g810 := g8.trans g10
      refine ⟨_, rfl, _, rfl, _, rfl, .ref pa, v, ps, 1 + r, rv, rfl, g810.pairs hp9, ok, by omega, by omega, g810.val hv9, fun c2 H11 hc2 s11 => ?_⟩
      refine ⟨c1, c2, rfl, fun H12 s12 => ⟨_, rfl, ?_⟩⟩
      have ec : c1 = c2 := by
        cases c1 <;> cases c2
        · rfl
        · exact absurd (hc1.mpr (hc2.mp rfl)) (by decide)
        · exact absurd (hc2.mpr (hc1.mp rfl)) (by decide)
        · rfl
      rw [decide_eq_true ec]
      exact iteF ⟨_, rfl, g810.trans (Gr.of (s11.trans s12))⟩
    · rintro σ H8 ⟨v15, rfl, g8⟩
      exact k H8
end
end Fair
end

section
set_option Elab.async false
set_option linter.all false
set_option maxRecDepth 100000
set_option maxHeartbeats 4000000
/-! What the top has left, and the law at its heap. -/
namespace Fair
open PySem PySem.Spec L2 FM
theorem bnd {K : PySem.W.Frag} {st : Stmt} {x q : Str} {f : Addr} {fd : FuncData} {ps : List Str} (F : FnP K x q st f fd) (h : ∀ (kV doc pm : Value) (an : Option Addr) (cdv ct : Value) (us : List Value), us.length = ps.length → bindArgs (PySem.W.fnOf x q (defArgs st) (defBody st) (defScope st) .none kV doc pm an cdv ct) ⟨us, []⟩ = pure (ps.zip us)) : Binds K fd ps [] := F.bindsN h
/-- the def's code object -/
theorem code_at {K : PySem.W.Frag} {st : Stmt} {x q : Str} {p : Str × Option Str} {fd : FuncData} (F : FnP K x q st (He.fAd K p) fd) : fd.code = .ref (He.codeOf K p) := by
  obtain ⟨oc, od, dV, kV, doc, pm, an, cdv, ct, osl, rfl, lk, hcd, _, _⟩ := F.ex
  obtain ⟨c, rfl⟩ := He.codeIn_ref hcd
  rw [He.codeOf_eq lk rfl] <;> rfl
theorem tab_of {base : Heap} {mg : Str → Option Value} {c P : Addr} (t : LamX.TabB base mg c P) : GxR.TabB base mg c P := ⟨t.code, t.bm, t.gP⟩
theorem law_at {l : PySem.W.OpenLaw} {w : World} {K : PySem.W.Frag} {h : Heap} {mg : Str → Option Value} {fa' : Addr} (X : K.In h) (G : h.Ns mainGlobals mg) (c : He.SaysX fa fn [] tf ex w h K) (hmg : mg "law" = some (.ref fa')) :
    LamX.LawAtS l w K CX0 6 63 "_law_script" mg fa' h := by
  have D := He.SaysT.d c.t
  have g0 : mg "is_in" = some (.ref (He.ga K "is_in")) := He.glo_ok X G (D.fact 0)
  have g1 : mg "need_machines" = some (.ref (He.ga K "need_machines")) := He.glo_ok X G (D.fact 1)
  have g2 : mg "is_rising" = some (.ref (He.ga K "is_rising")) := He.glo_ok X G (D.fact 2)
  have g3 : mg "is_pair" = some (.ref (He.ga K "is_pair")) := He.glo_ok X G (D.fact 3)
  have g4 : mg "need_pairs" = some (.ref (He.ga K "need_pairs")) := He.glo_ok X G (D.fact 4)
  have g5 : mg "cycle_of" = some (.ref (He.ga K "cycle_of")) := He.glo_ok X G (D.fact 5)
  have g6 : mg "need_fair" = some (.ref (He.ga K "need_fair")) := He.glo_ok X G (D.fact 6)
  have g7 : mg "Turns" = some (.ref (He.ga K "Turns")) := He.glo_ok X G (D.fact 7)
  have g8 : mg "fair_schedule" = some (.ref (He.ga K "fair_schedule")) := He.glo_ok X G (D.fact 8)
  have g9 : mg "shows_fair" = some (.ref (He.ga K "shows_fair")) := He.glo_ok X G (D.fact 9)
  have g10 : mg "_law_taken" = some (.ref (He.ga K "_law_taken")) := He.glo_ok X G (D.fact 10)
  have g11 : mg "_law_pick" = some (.ref (He.ga K "_law_pick")) := He.glo_ok X G (D.fact 11)
  have g12 : mg "_law_alike" = some (.ref (He.ga K "_law_alike")) := He.glo_ok X G (D.fact 12)
  have g13 : mg "_law_pairs" = some (.ref (He.ga K "_law_pairs")) := He.glo_ok X G (D.fact 13)
  have g14 : mg "_law_cycle" = some (.ref (He.ga K "_law_cycle")) := He.glo_ok X G (D.fact 14)
  have g15 : mg "_law_is_fair" = some (.ref (He.ga K "_law_is_fair")) := He.glo_ok X G (D.fact 15)
  have g16 : mg "law" = some (.ref (He.ga K "law")) := He.glo_ok X G (D.fact 16)
  have T : Tx mg := ⟨He.free_ok X G (D.fact 21), He.free_ok X G (D.fact 22), He.free_ok X G (D.fact 23), He.free_ok X G (D.fact 24), He.free_ok X G (D.fact 25), He.free_ok X G (D.fact 26), He.free_ok X G (D.fact 27), He.free_ok X G (D.fact 28), He.free_ok X G (D.fact 29), He.free_ok X G (D.fact 30), He.free_ok X G (D.fact 31), He.free_ok X G (D.fact 32), He.free_ok X G (D.fact 33), He.free_ok X G (D.fact 34), He.free_ok X G (D.fact 35), PySem.W.mg_of X G (He.eqO_ok c.more), He.int_ok X G (D.fact 17), He.int_ok X G (D.fact 18), He.int_ok X G (D.fact 19), He.int_ok X G (D.fact 20)⟩
  have Tc : TC K mg (He.ga K "Turns") := ⟨He.cls_ok (D.fact 36), He.noat_ok (D.fact 37), He.noat_ok (D.fact 38), He.noat_ok (D.fact 39), He.noat_ok (D.fact 40)⟩
  have mR := He.meth_ok (K := K) (x := "Turns") (m := "rivals") (D.fact 41)
  have mP := He.meth_ok (K := K) (x := "Turns") (m := "place") (D.fact 42)
  have mM := He.meth_ok (K := K) (x := "Turns") (m := "move") (D.fact 43)
  have Mk' := He.mkr_ok (K := K) (x := "Turns") (D.fact 44)
  obtain ⟨fd0, F0⟩ := D.def_ 0
  have F0 : FnP K "is_in" "is_in" sIsIn (He.fAd K (("is_in" : Str), (none : Option Str))) fd0 := F0
  have b0 : Binds K fd0 ["value", "least", "most"] [] := bnd F0 fun _ _ _ _ _ _ us hl => match us, hl with | [_, _, _], _ => rfl
  obtain ⟨fd1, F1⟩ := D.def_ 1
  have F1 : FnP K "need_machines" "need_machines" sNeedMach (He.fAd K (("need_machines" : Str), (none : Option Str))) fd1 := F1
  have b1 : Binds K fd1 ["machines"] [] := bnd F1 fun _ _ _ _ _ _ us hl => match us, hl with | [_], _ => rfl
  obtain ⟨fd2, F2⟩ := D.def_ 2
  have F2 : FnP K "is_rising" "is_rising" sRising (He.fAd K (("is_rising" : Str), (none : Option Str))) fd2 := F2
  have b2 : Binds K fd2 ["value", "many"] [] := bnd F2 fun _ _ _ _ _ _ us hl => match us, hl with | [_, _], _ => rfl
  obtain ⟨fd3, F3⟩ := D.def_ 3
  have F3 : FnP K "is_pair" "is_pair" sIsPair (He.fAd K (("is_pair" : Str), (none : Option Str))) fd3 := F3
  have b3 : Binds K fd3 ["value"] [] := bnd F3 fun _ _ _ _ _ _ us hl => match us, hl with | [_], _ => rfl
  obtain ⟨fd4, F4⟩ := D.def_ 4
  have F4 : FnP K "need_pairs" "need_pairs" sNeedPairs (He.fAd K (("need_pairs" : Str), (none : Option Str))) fd4 := F4
  have b4 : Binds K fd4 ["pairs"] [] := bnd F4 fun _ _ _ _ _ _ us hl => match us, hl with | [_], _ => rfl
  obtain ⟨fd5, F5⟩ := D.def_ 5
  have F5 : FnP K "cycle_of" "cycle_of" sCycle (He.fAd K (("cycle_of" : Str), (none : Option Str))) fd5 := F5
  have b5 : Binds K fd5 ["pairs"] [] := bnd F5 fun _ _ _ _ _ _ us hl => match us, hl with | [_], _ => rfl
  obtain ⟨fd6, F6⟩ := D.def_ 6
  have F6 : FnP K "need_fair" "need_fair" sNeedFair (He.fAd K (("need_fair" : Str), (none : Option Str))) fd6 := F6
  have b6 : Binds K fd6 ["pairs", "machines"] [] := bnd F6 fun _ _ _ _ _ _ us hl => match us, hl with | [_, _], _ => rfl
  obtain ⟨fd7, F7⟩ := D.def_ 7
  have F7 : FnP K "__init__" "Turns.__init__" sInit (He.fAd K (("Turns" : Str), some ("__init__" : Str))) fd7 := F7
  have b7 : Binds K fd7 ["self", "pairs", "machines", "cycle"] [] := bnd F7 fun _ _ _ _ _ _ us hl => match us, hl with | [_, _, _, _], _ => rfl
  obtain ⟨fd8, F8⟩ := D.def_ 8
  have F8 : FnP K "rivals" "Turns.rivals" sRivals (He.fAd K (("Turns" : Str), some ("rivals" : Str))) fd8 := F8
  have b8 : Binds K fd8 ["self", "turn", "now"] [] := bnd F8 fun _ _ _ _ _ _ us hl => match us, hl with | [_, _, _], _ => rfl
  obtain ⟨fd9, F9⟩ := D.def_ 9
  have F9 : FnP K "place" "Turns.place" sPlace (He.fAd K (("Turns" : Str), some ("place" : Str))) fd9 := F9
  have b9 : Binds K fd9 ["self", "turn"] [] := bnd F9 fun _ _ _ _ _ _ us hl => match us, hl with | [_, _], _ => rfl
  obtain ⟨fd10, F10⟩ := D.def_ 10
  have F10 : FnP K "move" "Turns.move" sMove (He.fAd K (("Turns" : Str), some ("move" : Str))) fd10 := F10
  have b10 : Binds K fd10 ["self", "turn", "here", "now", "came"] [] := bnd F10 fun _ _ _ _ _ _ us hl => match us, hl with | [_, _, _, _, _], _ => rfl
  obtain ⟨fd11, F11⟩ := D.def_ 11
  have F11 : FnP K "fair_schedule" "fair_schedule" sFair (He.fAd K (("fair_schedule" : Str), (none : Option Str))) fd11 := F11
  have b11 : Binds K fd11 ["pairs", "machines"] [] := bnd F11 fun _ _ _ _ _ _ us hl => match us, hl with | [_, _], _ => rfl
  obtain ⟨fd12, F12⟩ := D.def_ 12
  have F12 : FnP K "shows_fair" "shows_fair" sShows (He.fAd K (("shows_fair" : Str), (none : Option Str))) fd12 := F12
  have b12 : Binds K fd12 ["pairs", "machines", "value"] [] := bnd F12 fun _ _ _ _ _ _ us hl => match us, hl with | [_, _, _], _ => rfl
  obtain ⟨fd13, F13⟩ := D.def_ 13
  have F13 : FnP K "_law_taken" "_law_taken" sTaken (He.fAd K (("_law_taken" : Str), (none : Option Str))) fd13 := F13
  have b13 : Binds K fd13 ["_law_row", "_law_many"] [] := bnd F13 fun _ _ _ _ _ _ us hl => match us, hl with | [_, _], _ => rfl
  obtain ⟨fd14, F14⟩ := D.def_ 14
  have F14 : FnP K "_law_pick" "_law_pick" sPick (He.fAd K (("_law_pick" : Str), (none : Option Str))) fd14 := F14
  have b14 : Binds K fd14 ["_law_row", "_law_things"] [] := bnd F14 fun _ _ _ _ _ _ us hl => match us, hl with | [_, _], _ => rfl
  obtain ⟨fd15, F15⟩ := D.def_ 15
  have F15 : FnP K "_law_alike" "_law_alike" sAlike (He.fAd K (("_law_alike" : Str), (none : Option Str))) fd15 := F15
  have b15 : Binds K fd15 ["_law_found", "_law_due"] [] := bnd F15 fun _ _ _ _ _ _ us hl => match us, hl with | [_, _], _ => rfl
  obtain ⟨fd16, F16⟩ := D.def_ 16
  have F16 : FnP K "_law_pairs" "_law_pairs" sPairs (He.fAd K (("_law_pairs" : Str), (none : Option Str))) fd16 := F16
  have b16 : Binds K fd16 ["_law_row"] [] := bnd F16 fun _ _ _ _ _ _ us hl => match us, hl with | [_], _ => rfl
  obtain ⟨fd17, F17⟩ := D.def_ 17
  have F17 : FnP K "_law_cycle" "_law_cycle" sLCycle (He.fAd K (("_law_cycle" : Str), (none : Option Str))) fd17 := F17
  have b17 : Binds K fd17 ["_law_pairs_here"] [] := bnd F17 fun _ _ _ _ _ _ us hl => match us, hl with | [_], _ => rfl
  obtain ⟨fd18, F18⟩ := D.def_ 18
  have F18 : FnP K "_law_is_fair" "_law_is_fair" sIsFair (He.fAd K (("_law_is_fair" : Str), (none : Option Str))) fd18 := F18
  have b18 : Binds K fd18 ["_law_pairs_here", "_law_machines", "_law_value"] [] := bnd F18 fun _ _ _ _ _ _ us hl => match us, hl with | [_, _, _], _ => rfl
  obtain ⟨fd19, F19⟩ := D.def_ 19
  have F19 : FnP K "law" "law" sLaw (He.fAd K (("law" : Str), (none : Option Str))) fd19 := F19
  have b19 : Binds K fd19 ["_law_script"] [] := bnd F19 fun _ _ _ _ _ _ us hl => match us, hl with | [_], _ => rfl
  have e := hmg.symm.trans g16
  cases e
  have hc2 := code_at F2
  have hc11 := code_at F11
  have hc12 := code_at F12
  refine ⟨fd19, tf.map (He.cT K), spLaw K (He.tabOf K (He.codeOf K (("is_rising" : Str), none))) (He.tabOf K (He.codeOf K (("fair_schedule" : Str), none))) (He.tabOf K (He.codeOf K (("shows_fair" : Str), none))), ?_, ?_, ?_, ?_, ?_, ?_⟩
  · intro p hp
    obtain ⟨d, hd, rfl⟩ := List.mem_map.mp hp
    exact c.empty d hd
  · intro p hp
    obtain ⟨d, hd, rfl⟩ := List.mem_map.mp hp
    exact c.out d hd
  · intro p hp
    obtain ⟨d, hd, rfl⟩ := List.mem_map.mp hp
    exact PySem.W.codeHd_of_K X (c.hd d hd)
  · exact fun s u => F19.bindsA (ps := ["_law_script"]) (fun _ _ _ _ _ _ us hl => match us, hl with | [_], _ => rfl) s [u] rfl
  · intro H a ns hl hb hH hS
    have tk : ∀ d ∈ tf, GxR.TabG H (He.cT K d).2 := fun d hd => ⟨#[], hH _ (List.mem_map.mpr ⟨d, hd, rfl⟩), trivial⟩
    exact ⟨a, ns, rfl, hS, tk (("is_rising" : Str), none) (by decide), tk (("fair_schedule" : Str), none) (by decide), tk (("shows_fair" : Str), none) (by decide), fun _ => rfl⟩
  · intro base hK hns hT
    have tb : ∀ d ∈ tf, GxR.TabB base mg (He.cT K d).1 (He.cT K d).2 := fun d hd => tab_of (hT _ (List.mem_map.mpr ⟨d, hd, rfl⟩))
    have k := fun {x : Str} {q : Str} {st : Stmt} {f : Addr} {fd : FuncData} (F : FnP K x q st f fd) => F.kp
    have G0 : FnOk l.prog w K mg base CX0 1 _ fd0 _ spIsIn := ok_isIn F0 T
    have G1 := ok_needMach F1 T G0 g0 F0.kp b0
    have G2 := ok_rising F2 hc2 (tb (("is_rising" : Str), none) (by decide)) T G0 g0 F0.kp b0
    have G3 := ok_isPair F3 T G0 g0 F0.kp b0
    have G4 := ok_needPairs F4 T G3 g3 F3.kp b3
    have G5 : FnOk l.prog w K mg base CX0 1 _ fd5 _ (spCycle K) := ok_cycle F5 T
    have G6 := ok_needFair F6 G4 g4 F4.kp b4 G1 g1 F1.kp b1
    have G7 : FnOk l.prog w K mg base CX0 1 _ fd7 _ (spInit K (He.ga K "Turns")) := ok_init F7 T Tc
    have G8 : FnOk l.prog w K mg base CX0 1 _ fd8 _ (spRivals (He.ga K "Turns")) := ok_rivals F8 T Tc
    have G10 : FnOk l.prog w K mg base CX0 1 _ fd10 _ (spMove (He.ga K "Turns")) := ok_move F10 Tc
    have G9 := ok_place F9 Tc G8 mR b8 G10 mM b10
    have G11 := ok_fair F11 hc11 (tb (("fair_schedule" : Str), none) (by decide)) T Tc Mk' g7 G6 g6 F6.kp b6 G5 g5 F5.kp b5 G7 b7 G9 mP b9
    have G12 := ok_shows F12 hc12 (tb (("shows_fair" : Str), none) (by decide)) T G6 g6 F6.kp b6 G5 g5 F5.kp b5 G2 g2 F2.kp b2
    have G13 : FnOk l.prog w K mg base CX0 1 _ fd13 _ (spTaken K) := ok_taken F13 T
    have G14 := ok_pick F14 T G13 g10 F13.kp b13
    have G15 : FnOk l.prog w K mg base CX0 1 _ fd15 _ spAlike := ok_alike F15 T
    have G16 := ok_pairs F16 T G13 g10 F13.kp b13 G14 g11 F14.kp b14
    have G17 : FnOk l.prog w K mg base CX0 1 _ fd17 _ (spLCycle K) := ok_lcycle F17 T
    have G18 := ok_isFair F18 T G17 g14 F17.kp b17
    exact ok_law F19 T G13 g10 F13.kp b13 G16 g13 F16.kp b16 G11 g8 F11.kp b11 G17 g14 F17.kp b17 G15 g12 F15.kp b15 G12 g9 F12.kp b12 G18 g15 F18.kp b18
end Fair
end

section
set_option Elab.async false
set_option linter.all false
set_option maxRecDepth 100000
set_option maxHeartbeats 0
open PySem PySem.W PyProof.Rows
theorem PySem.Challenge.cw_eventcore_k53_whole_fair_schedules_judge_holds : PySem.Challenge.rw_eventcore_k53_whole_fair_schedules_judge.Holds := by
  w_on; o_law; o_head (He.hookX 5 Fair.fa Fair.fn [] Fair.tf Fair.ex)
  case hw => w_witness2
  case hc =>
    refine LamX.walk_ofTsE (l := PySem.Challenge.rw_eventcore_k53_whole_fair_schedules_judge) (n := 63) (k := 6) (x := "_law_script") (CX := fun _ => L2.CX0) rfl (by decide) rfl ⟨by decide, by decide, by decide⟩ ?_ ?_
    · intro w mg fa h Y G hmg
      obtain ⟨K, KX, c⟩ := Y
      exact ⟨K, KX, Fair.law_at KX G c hmg⟩
    · intro w H s e s' z
      exact z
end
