import PyProof.Rows.All
import Wide.All
import OpenK.AllK
import Wide.FinOn
import HandS.ForMost
import HandS.ForExc
import HandS.Zip
import HandS.DictTup
import HandS.Conv
import HandS.Walk
import KE.GoesEnum
import KE.GoesZip
import KE.GoesMore
import HandS.ListItems
import HandS.DictComp
import HandS.Sort
import KE.KDictZip
import KE.KDictPairs
import KE.KRevIter
import PyProof.ListStr
import PyProof.MinMaxWalk
import PyProof.FactsAll.object
import HandS.DictEq
import HandS.OwnEq
import HandS.DeepEq
import KE.SortData
import PyProof.InstNe
import PyProof.MeetsIn
import PyProof.NeKinds
import HandS.IsInst
import HandS.Style
import HandS.Star
import HandS.CallRecv
import HandS.Flow
import HandS.Evl
import PySem.Challenge.RW_beatwires_k11_whole_plans
set_option Elab.async false
set_option maxRecDepth 100000
/-! #### M12 -/
set_option linter.all false
/-! The plain mathematics of plans: rings, relaxations, beats. No program here. -/
namespace Bw
section
variable {α : Type} [DecidableEq α]

def updf (f : α → Int) (k : α) (v : Int) : α → Int := fun x => if x = k then v else f x
theorem updf_same (f : α → Int) (k : α) (v : Int) : updf f k v k = v := if_pos rfl
theorem updf_ne {f : α → Int} {k x : α} {v : Int} (h : x ≠ k) : updf f k v x = f x := if_neg h

/-! ### rings -/
def heads (rest : List (α × α)) : List α := rest.map (·.2)
def prune (rest : List (α × α)) : List (α × α) := rest.filter fun e => decide (e.1 ∈ heads rest)
def ringF : Nat → List (α × α) → Bool
  | 0, _ => false
  | n + 1, rest => if rest = [] then false else if (prune rest).length = rest.length then true else ringF n (prune rest)
def ring (rest : List (α × α)) : Bool := ringF (rest.length + 1) rest
theorem prune_le (rest : List (α × α)) : (prune rest).length ≤ rest.length := List.length_filter_le _ _
theorem ringF_fuel : ∀ (n m : Nat) (rest : List (α × α)), rest.length < n → rest.length < m → ringF n rest = ringF m rest
  | 0, _, _, h, _ => absurd h (Nat.not_lt_zero _)
  | _ + 1, 0, _, _, h => absurd h (Nat.not_lt_zero _)
  | n + 1, m + 1, rest, h1, h2 => by
    unfold ringF
    by_cases e : rest = []
    · rw [if_pos e, if_pos e]
    · rw [if_neg e, if_neg e]
      by_cases q : (prune rest).length = rest.length
      · rw [if_pos q, if_pos q]
      · rw [if_neg q, if_neg q]
        have := prune_le rest
        exact ringF_fuel n m _ (by omega) (by omega)
theorem ring_nil : ring ([] : List (α × α)) = false := rfl
theorem ring_yes {rest : List (α × α)} (h : rest ≠ []) (e : (prune rest).length = rest.length) : ring rest = true := by
  unfold ring ringF
  rw [if_neg h, if_pos e]
theorem ring_on {rest : List (α × α)} (h : rest ≠ []) (e : (prune rest).length ≠ rest.length) : ring rest = ring (prune rest) := by
  have := prune_le rest
  show ringF (rest.length + 1) rest = _
  unfold ringF
  rw [if_neg h, if_neg e]
  exact ringF_fuel _ _ _ (by omega) (by omega)
theorem prune_eq {rest : List (α × α)} (e : (prune rest).length = rest.length) : prune rest = rest :=
  List.filter_eq_self.mpr (List.length_filter_eq_length_iff.mp e)
theorem ring_prune (rest : List (α × α)) : ring (prune rest) = ring rest := by
  by_cases e : (prune rest).length = rest.length
  · rw [prune_eq e]
  · have h : rest ≠ [] := fun z => by
      subst z
      exact e rfl
    exact (ring_on h e).symm
theorem ring_fix {rest : List (α × α)} (e : (prune rest).length = rest.length) : ring rest = !decide (rest = []) := by
  by_cases h : rest = []
  · subst h
    rfl
  · rw [ring_yes h e, decide_eq_false h]
    rfl

theorem filter_lt {p q : α → Bool} : ∀ {G : List α}, (∀ x ∈ G, p x = true → q x = true) → (∃ x ∈ G, q x = true ∧ p x = false) → (G.filter p).length + 1 ≤ (G.filter q).length
  | [], _, h => by
    obtain ⟨x, hx, _⟩ := h
    cases hx
  | a :: r, h1, h2 => by
    have le : ∀ {G : List α}, (∀ x ∈ G, p x = true → q x = true) → (G.filter p).length ≤ (G.filter q).length := by
      intro G
      induction G with
      | nil => intro _; exact Nat.le_refl _
      | cons b s ih =>
        intro h
        have i := ih fun x hx => h x (List.mem_cons_of_mem _ hx)
        rw [List.filter_cons, List.filter_cons]
        by_cases pb : p b = true
        · rw [if_pos pb, if_pos (h b List.mem_cons_self pb)]
          simp only [List.length_cons]
          omega
        · rw [if_neg pb]
          split
          · simp only [List.length_cons]; omega
          · exact i
    have hr := le fun x hx => h1 x (List.mem_cons_of_mem _ hx)
    rw [List.filter_cons, List.filter_cons]
    obtain ⟨x, hx, hq, hp⟩ := h2
    by_cases pa : p a = true
    · rw [if_pos pa, if_pos (h1 a List.mem_cons_self pa)]
      have hx' : x ∈ r := by
        rcases List.mem_cons.mp hx with e | e
        · subst e; rw [hp] at pa; cases pa
        · exact e
      have := filter_lt (G := r) (fun x hx => h1 x (List.mem_cons_of_mem _ hx)) ⟨x, hx', hq, hp⟩
      simp only [List.length_cons]
      omega
    · rw [if_neg pa]
      by_cases qa : q a = true
      · rw [if_pos qa]
        simp only [List.length_cons]
        omega
      · rw [if_neg qa]
        have hx' : x ∈ r := by
          rcases List.mem_cons.mp hx with e | e
          · subst e; exact absurd hq qa
          · exact e
        exact filter_lt (G := r) (fun x hx => h1 x (List.mem_cons_of_mem _ hx)) ⟨x, hx', hq, hp⟩

def cnt (G S : List α) : Nat := (G.filter fun x => decide (x ∈ S)).length
theorem mem_prune {rest : List (α × α)} {e : α × α} : e ∈ prune rest ↔ e ∈ rest ∧ e.1 ∈ heads rest := by
  unfold prune
  rw [List.mem_filter, decide_eq_true_iff]
theorem mem_heads {rest : List (α × α)} {x : α} : x ∈ heads rest ↔ ∃ e ∈ rest, e.2 = x := List.mem_map
/-- without a ring the wires go upwards by a rank -/
theorem rank_of (G : List α) : ∀ (n : Nat) (rest : List (α × α)), rest.length ≤ n → (∀ x ∈ heads rest, x ∈ G) → ring rest = false →
    ∃ ρ : α → Nat, (∀ e ∈ rest, ρ e.1 < ρ e.2) ∧ ∀ v, ρ v ≤ cnt G (heads rest) := by
  intro n
  induction n with
  | zero =>
    intro rest hl _ _
    have e : rest = [] := List.length_eq_zero_iff.mp (by omega)
    subst e
    exact ⟨fun _ => 0, fun e h => (nomatch h), fun _ => Nat.zero_le _⟩
  | succ n ih =>
    intro rest hl hG hr
    by_cases h : rest = []
    · subst h
      exact ⟨fun _ => 0, fun e h => (nomatch h), fun _ => Nat.zero_le _⟩
    · have e : (prune rest).length ≠ rest.length := fun e => by
        rw [ring_yes h e] at hr
        cases hr
      have le := prune_le rest
      have sub : ∀ x ∈ heads (prune rest), x ∈ heads rest := fun x hx => by
        obtain ⟨w, hw, e⟩ := mem_heads.mp hx
        exact mem_heads.mpr ⟨w, (mem_prune.mp hw).1, e⟩
      have hr' : ring (prune rest) = false := by rw [← ring_on h e]; exact hr
      obtain ⟨ρ, h1, h2⟩ := ih (prune rest) (by omega) (fun x hx => hG x (sub x hx)) hr'
      have strict : cnt G (heads (prune rest)) + 1 ≤ cnt G (heads rest) := by
        refine filter_lt (fun x _ hx => decide_eq_true (sub x (of_decide_eq_true hx))) ?_
        apply Classical.byContradiction
        intro no
        have all : ∀ x ∈ heads rest, x ∈ heads (prune rest) := fun x hx => by
          apply Classical.byContradiction
          intro nx
          exact no ⟨x, hG x hx, decide_eq_true hx, decide_eq_false nx⟩
        have same : (prune (prune rest)).length = (prune rest).length := by
          refine congrArg List.length (List.filter_eq_self.mpr fun w hw => decide_eq_true ?_)
          exact all _ (mem_prune.mp hw).2
        rw [ring_fix same] at hr'
        have nil : prune rest = [] := by
          have : decide (prune rest = []) = true := by simpa using hr'
          exact of_decide_eq_true this
        obtain ⟨w, r, rfl⟩ := List.exists_cons_of_ne_nil h
        have : w.2 ∈ heads (prune (w :: r)) := all _ (mem_heads.mpr ⟨w, List.mem_cons_self, rfl⟩)
        rw [nil] at this
        exact nomatch this
      refine ⟨fun v => if v ∈ heads rest then ρ v + 1 else 0, fun w hw => ?_, fun v => ?_⟩
      · have h2' : w.2 ∈ heads rest := mem_heads.mpr ⟨w, hw, rfl⟩
        show (if w.1 ∈ heads rest then ρ w.1 + 1 else 0) < if w.2 ∈ heads rest then ρ w.2 + 1 else 0
        rw [if_pos h2']
        by_cases q : w.1 ∈ heads rest
        · rw [if_pos q]
          have := h1 w (mem_prune.mpr ⟨hw, q⟩)
          omega
        · rw [if_neg q]
          omega
      · show (if v ∈ heads rest then ρ v + 1 else 0) ≤ _
        have := h2 v
        split <;> omega

/-! ### relaxations -/
variable (out : α) (d : α → Int)
def relax1 (f : α → Int) (e : α × α) : α → Int := if e.1 ≠ out then updf f e.2 (max (f e.2) (f e.1 + d e.2)) else f
def pround (bare : List (α × α)) (f : α → Int) : α → Int := bare.foldl (relax1 out d) f
def lrelax (x l : α → Int) (e : α × α) : α → Int := if e.1 ≠ out then updf l e.2 (max (l e.2) (x e.1 + d e.2)) else l
def lround (bare : List (α × α)) (x : α → Int) : α → Int := bare.foldl (lrelax out d x) x
def iter {β : Type} (F : β → β) : Nat → β → β
  | 0, x => x
  | n + 1, x => F (iter F n x)
def inner (bare : List (α × α)) : List (α × α) := bare.filter fun e => decide (e.1 ≠ out ∧ e.2 ≠ out)
def pfin (bare : List (α × α)) (n : Nat) : α → Int := iter (pround out d bare) n d
variable {out d}

theorem relax1_ge (f : α → Int) (e : α × α) (v : α) : f v ≤ relax1 out d f e v := by
  unfold relax1
  split
  · by_cases h : v = e.2
    · rw [h, updf_same]; omega
    · rw [updf_ne h]; omega
  · omega
theorem pround_ge : ∀ (bare : List (α × α)) (f : α → Int) (v : α), f v ≤ pround out d bare f v
  | [], f, v => Int.le_refl _
  | e :: r, f, v => Int.le_trans (relax1_ge f e v) (pround_ge r (relax1 out d f e) v)
theorem relax1_mono {f g : α → Int} (h : ∀ v, f v ≤ g v) (e : α × α) (v : α) : relax1 out d f e v ≤ relax1 out d g e v := by
  unfold relax1
  split
  · by_cases q : v = e.2
    · have h1 := h e.1
      have h2 := h e.2
      rw [q, updf_same, updf_same]; omega
    · rw [updf_ne q, updf_ne q]; exact h v
  · exact h v
theorem pround_mono : ∀ (bare : List (α × α)) {f g : α → Int}, (∀ v, f v ≤ g v) → ∀ v, pround out d bare f v ≤ pround out d bare g v
  | [], _, _, h, v => h v
  | e :: r, _, _, h, v => pround_mono r (fun u => relax1_mono h e u) v
theorem pround_edge : ∀ (bare : List (α × α)) (f : α → Int) (e : α × α), e ∈ bare → e.1 ≠ out → f e.1 + d e.2 ≤ pround out d bare f e.2
  | [], _, _, h, _ => nomatch h
  | a :: r, f, e, h, ne => by
    rcases List.mem_cons.mp h with q | q
    · subst q
      refine Int.le_trans ?_ (pround_ge r (relax1 out d f e) e.2)
      unfold relax1
      rw [if_pos ne, updf_same]
      omega
    · have h1 := pround_edge r (relax1 out d f a) e q ne
      have h2 := relax1_ge (out := out) (d := d) f a e.1
      exact Int.le_trans (by omega) h1
theorem lfold_ge (x : α → Int) : ∀ (bare : List (α × α)) (l : α → Int) (v : α), l v ≤ bare.foldl (lrelax out d x) l v
  | [], l, v => Int.le_refl _
  | e :: r, l, v => by
    refine Int.le_trans ?_ (lfold_ge x r (lrelax out d x l e) v)
    unfold lrelax
    split
    · by_cases h : v = e.2
      · rw [h, updf_same]; omega
      · rw [updf_ne h]; omega
    · omega
theorem lfold_edge (x : α → Int) : ∀ (bare : List (α × α)) (l : α → Int) (e : α × α), e ∈ bare → e.1 ≠ out → x e.1 + d e.2 ≤ bare.foldl (lrelax out d x) l e.2
  | [], _, _, h, _ => nomatch h
  | a :: r, l, e, h, ne => by
    rcases List.mem_cons.mp h with q | q
    · subst q
      refine Int.le_trans ?_ (lfold_ge x r (lrelax out d x l e) e.2)
      unfold lrelax
      rw [if_pos ne, updf_same]
      omega
    · exact lfold_edge x r (lrelax out d x l a) e q ne
/-- the law's round gives nothing but what was there or what a wire brings -/
theorem lfold_or (x : α → Int) : ∀ (bare : List (α × α)) (l : α → Int) (v : α), bare.foldl (lrelax out d x) l v = l v ∨ ∃ e ∈ bare, e.1 ≠ out ∧ e.2 = v ∧ bare.foldl (lrelax out d x) l v = x e.1 + d v
  | [], l, v => .inl rfl
  | a :: r, l, v => by
    rcases lfold_or x r (lrelax out d x l a) v with h | ⟨e, he, h1, h2, h3⟩
    · show r.foldl (lrelax out d x) (lrelax out d x l a) v = l v ∨ _
      by_cases ne : a.1 ≠ out
      · by_cases q : v = a.2
        · have z : lrelax out d x l a v = max (l a.2) (x a.1 + d a.2) := by
            unfold lrelax
            rw [if_pos ne, q, updf_same]
          by_cases c : x a.1 + d a.2 ≤ l a.2
          · left
            rw [h, z, q]
            omega
          · right
            refine ⟨a, List.mem_cons_self, ne, q.symm, ?_⟩
            show r.foldl (lrelax out d x) (lrelax out d x l a) v = _
            rw [h, z, q]
            omega
        · left
          rw [h]
          unfold lrelax
          rw [if_pos ne, updf_ne q]
      · left
        rw [h]
        unfold lrelax
        rw [if_neg ne]
    · exact .inr ⟨e, List.mem_cons_of_mem _ he, h1, h2, h3⟩

section
variable {bare : List (α × α)} {x : α → Int}
theorem lround_ge (v : α) : x v ≤ lround out d bare x v := lfold_ge x bare x v
theorem lround_edge {e : α × α} (h : e ∈ bare) (ne : e.1 ≠ out) : x e.1 + d e.2 ≤ lround out d bare x e.2 := lfold_edge x bare x e h ne
theorem lround_or (v : α) : lround out d bare x v = x v ∨ ∃ e ∈ bare, e.1 ≠ out ∧ e.2 = v ∧ lround out d bare x v = x e.1 + d v := lfold_or x bare x v

theorem stab {ρ : α → Nat} (hρ : ∀ e ∈ bare, e.1 ≠ out → e.2 ≠ out → ρ e.1 < ρ e.2) : ∀ (k : Nat) (v : α), v ≠ out → ρ v ≤ k → iter (lround out d bare) (k + 1) x v ≤ iter (lround out d bare) k x v := by
  intro k
  induction k with
  | zero =>
    intro v hv h0
    rcases lround_or (out := out) (d := d) (bare := bare) (x := iter (lround out d bare) 0 x) v with h | ⟨e, he, h1, h2, _⟩
    · exact Int.le_of_eq h
    · subst h2
      have := hρ e he h1 hv
      omega
  | succ k ih =>
    intro v hv h0
    rcases lround_or (out := out) (d := d) (bare := bare) (x := iter (lround out d bare) (k + 1) x) v with h | ⟨e, he, h1, h2, h3⟩
    · exact Int.le_of_eq h
    · subst h2
      have r := hρ e he h1 hv
      have i := ih e.1 h1 (by omega)
      have g := lround_edge (x := iter (lround out d bare) k x) (d := d) he h1
      show lround out d bare (iter (lround out d bare) (k + 1) x) e.2 ≤ _
      rw [h3]
      exact Int.le_trans (Int.add_le_add_right i _) g
/-- a round past the highest rank changes nothing -/
theorem fix {ρ : α → Nat} {g : Nat} (hρ : ∀ e ∈ bare, e.1 ≠ out → e.2 ≠ out → ρ e.1 < ρ e.2) (hg : ∀ v, ρ v ≤ g) : lround out d bare (iter (lround out d bare) (g + 1) x) = iter (lround out d bare) (g + 1) x := by
  funext v
  refine Int.le_antisymm ?_ (lround_ge v)
  by_cases hv : v = out
  · rcases lround_or (out := out) (d := d) (bare := bare) (x := iter (lround out d bare) (g + 1) x) v with h | ⟨e, he, h1, h2, h3⟩
    · exact Int.le_of_eq h
    · have i := stab (d := d) (x := x) hρ g e.1 h1 (hg _)
      have q := lround_edge (x := iter (lround out d bare) g x) (d := d) he h1
      rw [h3, ← h2]
      exact Int.le_trans (Int.add_le_add_right i _) q
  · exact stab (d := d) (x := x) hρ (g + 1) v hv (Nat.le_succ_of_le (hg v))
theorem iter_fix {β : Type} {F : β → β} {x : β} {g : Nat} (h : F (iter F g x) = iter F g x) : ∀ n, g ≤ n → iter F n x = iter F g x
  | 0, hn => by
    have : g = 0 := by omega
    subst this
    rfl
  | n + 1, hn => by
    by_cases e : g = n + 1
    · rw [e]
    · show F (iter F n x) = _
      rw [iter_fix h n (by omega), h]
theorem iter_ge : ∀ (n : Nat) (v : α), x v ≤ iter (lround out d bare) n x v
  | 0, v => Int.le_refl _
  | n + 1, v => Int.le_trans (iter_ge n v) (lround_ge v)

/-- Plan's rounds come to the same -/
theorem pfin_eq {g n : Nat} (hf : lround out d bare (iter (lround out d bare) g d) = iter (lround out d bare) g d) (hn : g ≤ n) : pfin out d bare n = iter (lround out d bare) g d := by
  have edge : ∀ e ∈ bare, e.1 ≠ out → iter (lround out d bare) g d e.1 + d e.2 ≤ iter (lround out d bare) g d e.2 := fun e he h1 => by
    have := lround_edge (x := iter (lround out d bare) g d) (d := d) he h1
    rw [hf] at this
    exact this
  have up1 : ∀ (f : α → Int), (∀ v, f v ≤ iter (lround out d bare) g d v) → ∀ e ∈ bare, ∀ v, relax1 out d f e v ≤ iter (lround out d bare) g d v := fun f hle e he v => by
    unfold relax1
    split
    · rename_i ne
      by_cases q : v = e.2
      · have h1 := edge e he ne
        have h2 := hle e.1
        have h3 := hle e.2
        rw [q, updf_same]
        omega
      · rw [updf_ne q]; exact hle v
    · exact hle v
  have up2 : ∀ (l : List (α × α)), (∀ e ∈ l, e ∈ bare) → ∀ (f : α → Int), (∀ v, f v ≤ iter (lround out d bare) g d v) → ∀ v, pround out d l f v ≤ iter (lround out d bare) g d v := by
    intro l
    induction l with
    | nil => intro _ f hle v; exact hle v
    | cons a r ih =>
      intro hs f hle v
      exact ih (fun e he => hs e (List.mem_cons_of_mem _ he)) _ (up1 f hle a (hs a List.mem_cons_self)) v
  have up : ∀ (k : Nat) (v : α), iter (pround out d bare) k d v ≤ iter (lround out d bare) g d v := by
    intro k
    induction k with
    | zero => intro v; exact iter_ge g v
    | succ k ih => intro v; exact up2 bare (fun _ h => h) _ ih v
  have lo : ∀ (k : Nat) (v : α), iter (lround out d bare) k d v ≤ iter (pround out d bare) k d v := by
    intro k
    induction k with
    | zero => intro v; exact Int.le_refl _
    | succ k ih =>
      intro v
      rcases lround_or (out := out) (d := d) (bare := bare) (x := iter (lround out d bare) k d) v with h | ⟨e, he, h1, h2, h3⟩
      · show lround out d bare (iter (lround out d bare) k d) v ≤ _
        rw [h]
        exact Int.le_trans (ih v) (pround_ge bare _ v)
      · subst h2
        show lround out d bare (iter (lround out d bare) k d) e.2 ≤ _
        rw [h3]
        have q := pround_edge (d := d) bare (iter (pround out d bare) k d) e he h1
        have i := ih e.1
        exact Int.le_trans (Int.add_le_add_right i _) q
  funext v
  refine Int.le_antisymm (up n v) ?_
  have := lo n v
  rw [iter_fix hf n hn] at this
  exact this
end
end
end Bw
set_option linter.all false
namespace Bw
section
variable {α : Type} [DecidableEq α]
/-! ### the greatest of a list -/
def maxL : List Int → Int
  | [] => 0
  | x :: xs => xs.foldl max x
theorem foldl_max_ge : ∀ (l : List Int) (x : Int), x ≤ l.foldl max x ∧ ∀ y ∈ l, y ≤ l.foldl max x
  | [], x => ⟨Int.le_refl _, fun _ h => nomatch h⟩
  | a :: r, x => by
    obtain ⟨h1, h2⟩ := foldl_max_ge r (max x a)
    show x ≤ r.foldl max (max x a) ∧ ∀ y ∈ a :: r, y ≤ r.foldl max (max x a)
    refine ⟨by omega, fun y hy => ?_⟩
    rcases List.mem_cons.mp hy with e | e
    · subst e; omega
    · exact h2 y e
theorem foldl_max_mem : ∀ (l : List Int) (x : Int), l.foldl max x = x ∨ l.foldl max x ∈ l
  | [], x => .inl rfl
  | a :: r, x => by
    show r.foldl max (max x a) = x ∨ r.foldl max (max x a) ∈ a :: r
    rcases foldl_max_mem r (max x a) with h | h
    · rw [h]
      by_cases c : a ≤ x
      · left; omega
      · right
        have : max x a = a := by omega
        rw [this]; exact List.mem_cons_self
    · exact .inr (List.mem_cons_of_mem _ h)
theorem maxL_ge {l : List Int} {y : Int} (h : y ∈ l) : y ≤ maxL l := by
  cases l with
  | nil => cases h
  | cons a r =>
    obtain ⟨h1, h2⟩ := foldl_max_ge r a
    rcases List.mem_cons.mp h with e | e
    · subst e; exact h1
    · exact h2 y e
theorem maxL_mem {l : List Int} (h : l ≠ []) : maxL l ∈ l := by
  cases l with
  | nil => exact absurd rfl h
  | cons a r =>
    rcases foldl_max_mem r a with e | e
    · show r.foldl max a ∈ a :: r
      rw [e]; exact List.mem_cons_self
    · exact List.mem_cons_of_mem _ e
theorem maxL_of {l : List Int} {m : Int} (h : m ∈ l) (hle : ∀ y ∈ l, y ≤ m) : m = maxL l :=
  Int.le_antisymm (maxL_ge h) (hle _ (maxL_mem (List.ne_nil_of_mem h)))
theorem maxL_congr {l l' : List Int} (h : ∀ y, y ∈ l ↔ y ∈ l') : maxL l = maxL l' := by
  by_cases e : l = []
  · subst e
    have : l' = [] := by
      cases l' with
      | nil => rfl
      | cons a r => exact nomatch (h a).mpr List.mem_cons_self
    rw [this]
  · refine maxL_of ((h _).mp (maxL_mem e)) fun y hy => maxL_ge ((h y).mpr hy)

/-! ### beats -/
abbrev Wire (α : Type) := α × α × Int
def rg (mv : α → Int) (w : Wire α) : Int := w.2.2 + mv w.2.1 - mv w.1
def regs (ws : List (Wire α)) (mv : α → Int) : List Int := ws.map (rg mv)
def bareOf (ws : List (Wire α)) (mv : α → Int) : List (α × α) := (ws.filter fun w => decide (rg mv w = 0)).map fun w => (w.1, w.2.1)
def beatOf (out : α) (ks : List α) (d : α → Int) (ws : List (Wire α)) (mv : α → Int) : Option Int :=
  if (regs ws mv).any (fun r => decide (r < 0)) = true then none
  else if ring (inner out (bareOf ws mv)) = true then none
  else some (maxL (ks.map (pfin out d (bareOf ws mv) ks.length)))
def lawL (out : α) (ks : List α) (d : α → Int) (bare : List (α × α)) : Nat → (α → Int) → Option Int
  | 0, _ => none
  | n + 1, x => if ∀ k ∈ ks, lround out d bare x k = x k then (if ring (inner out bare) = true then none else some (maxL (ks.map x))) else lawL out ks d bare n (lround out d bare x)

section
variable {out : α} {ks : List α} {d : α → Int} {ws : List (Wire α)} {mv : α → Int}
theorem mem_bareOf {e : α × α} : e ∈ bareOf ws mv ↔ ∃ w ∈ ws, rg mv w = 0 ∧ e = (w.1, w.2.1) := by
  unfold bareOf
  rw [List.mem_map]
  constructor
  · rintro ⟨w, hw, rfl⟩
    obtain ⟨h1, h2⟩ := List.mem_filter.mp hw
    exact ⟨w, h1, of_decide_eq_true h2, rfl⟩
  · rintro ⟨w, h1, h2, rfl⟩
    exact ⟨w, List.mem_filter.mpr ⟨h1, decide_eq_true h2⟩, rfl⟩
theorem mem_inner {bare : List (α × α)} {e : α × α} : e ∈ inner out bare ↔ e ∈ bare ∧ e.1 ≠ out ∧ e.2 ≠ out := by
  unfold inner
  rw [List.mem_filter, decide_eq_true_iff]
/-- the gates of a plan apart from the outside are fewer than all -/
theorem gates_lt (h : out ∈ ks) : (ks.filter fun k => decide (k ≠ out)).length + 1 ≤ ks.length := by
  have := filter_lt (p := fun k => decide (k ≠ out)) (q := fun _ => true) (G := ks) (fun _ _ _ => rfl) ⟨out, h, rfl, by simp⟩
  rw [show (ks.filter fun _ => true) = ks from List.filter_eq_self.mpr fun _ _ => rfl] at this
  exact this
theorem cnt_le (G S : List α) : cnt G S ≤ G.length := List.length_filter_le _ _
/-- no ring: the rounds come to an end -/
theorem settle {bare : List (α × α)} (ho : out ∈ ks) (he : ∀ e ∈ bare, e.1 ∈ ks ∧ e.2 ∈ ks) (hr : ring (inner out bare) = false) :
    ∃ g, g + 1 ≤ ks.length ∧ lround out d bare (iter (lround out d bare) (g + 1) d) = iter (lround out d bare) (g + 1) d := by
  obtain ⟨ρ, h1, h2⟩ := rank_of (ks.filter fun k => decide (k ≠ out)) _ (inner out bare) (Nat.le_refl _) (fun x hx => by
    obtain ⟨e, h, rfl⟩ := mem_heads.mp hx
    obtain ⟨h3, _, h5⟩ := mem_inner.mp h
    exact List.mem_filter.mpr ⟨(he e h3).2, decide_eq_true h5⟩) hr
  have g1 := gates_lt ho
  refine ⟨(ks.filter fun k => decide (k ≠ out)).length, g1, fix (fun e h hn hm => h1 e (mem_inner.mpr ⟨h, hn, hm⟩)) fun v => Nat.le_trans (h2 v) (cnt_le _ _)⟩
theorem lround_congr {bare : List (α × α)} {x y : α → Int} (he : ∀ e ∈ bare, e.1 ∈ ks ∧ e.2 ∈ ks) (h : ∀ k ∈ ks, x k = y k) : ∀ k ∈ ks, lround out d bare x k = lround out d bare y k := by
  have go : ∀ (l : List (α × α)), (∀ e ∈ l, e.1 ∈ ks ∧ e.2 ∈ ks) → ∀ (a b : α → Int), (∀ k ∈ ks, a k = b k) → ∀ k ∈ ks, l.foldl (lrelax out d x) a k = l.foldl (lrelax out d y) b k := by
    intro l
    induction l with
    | nil => intro _ a b h k hk; exact h k hk
    | cons e r ih =>
      intro hs a b hab k hk
      refine ih (fun e he => hs e (List.mem_cons_of_mem _ he)) _ _ (fun k hk => ?_) k hk
      have e1 := hs e List.mem_cons_self
      unfold lrelax
      split
      · by_cases q : k = e.2
        · rw [q, updf_same, updf_same, hab _ e1.2, h _ e1.1]
        · rw [updf_ne q, updf_ne q]; exact hab k hk
      · exact hab k hk
  exact go bare he x y h
theorem lawL_ring {bare : List (α × α)} (hr : ring (inner out bare) = true) : ∀ (n : Nat) (x : α → Int), lawL out ks d bare n x = none
  | 0, _ => rfl
  | n + 1, x => by
    unfold lawL
    rw [if_pos hr]
    split
    · rfl
    · exact lawL_ring hr n _
theorem lawL_is {bare : List (α × α)} {g : Nat} (he : ∀ e ∈ bare, e.1 ∈ ks ∧ e.2 ∈ ks) (hr : ring (inner out bare) = false) (hf : lround out d bare (iter (lround out d bare) g d) = iter (lround out d bare) g d) :
    ∀ (n i : Nat), i ≤ g → g < i + n → lawL out ks d bare n (iter (lround out d bare) i d) = some (maxL (ks.map (iter (lround out d bare) g d)))
  | 0, i, h1, h2 => by omega
  | n + 1, i, h1, h2 => by
    unfold lawL
    by_cases c : ∀ k ∈ ks, lround out d bare (iter (lround out d bare) i d) k = iter (lround out d bare) i d k
    · rw [if_pos c, if_neg (by rw [hr]; exact Bool.false_ne_true)]
      have all : ∀ j, i ≤ j → ∀ k ∈ ks, iter (lround out d bare) j d k = iter (lround out d bare) i d k := by
        intro j
        induction j with
        | zero =>
          intro hj k _
          have : i = 0 := by omega
          subst this
          rfl
        | succ j ih =>
          intro hj k hk
          by_cases e : i = j + 1
          · rw [e]
          · exact (lround_congr he (ih (by omega)) k hk).trans (c k hk)
      congr 2
      exact List.map_congr_left fun k hk => (all g h1 k hk).symm
    · rw [if_neg c]
      by_cases e : i = g
      · exact absurd (fun k _ => by rw [e, hf]) c
      · exact lawL_is he hr hf n (i + 1) (by omega) (by omega)
theorem ends_bare (he : ∀ w ∈ ws, w.1 ∈ ks ∧ w.2.1 ∈ ks) : ∀ e ∈ bareOf ws mv, e.1 ∈ ks ∧ e.2 ∈ ks := fun e h => by
  obtain ⟨w, hw, _, rfl⟩ := mem_bareOf.mp h
  exact he w hw
/-- the law's beat is the plan's -/
theorem law_is (ho : out ∈ ks) (he : ∀ w ∈ ws, w.1 ∈ ks ∧ w.2.1 ∈ ks) :
    (if (regs ws mv).any (fun r => decide (r < 0)) = true then none else lawL out ks d (bareOf ws mv) (ks.length + 2) d) = beatOf out ks d ws mv := by
  unfold beatOf
  split
  · rfl
  · by_cases hr : ring (inner out (bareOf ws mv)) = true
    · rw [if_pos hr, lawL_ring hr]
    · rw [if_neg hr]
      have hr' : ring (inner out (bareOf ws mv)) = false := by simpa using hr
      have eb := ends_bare (mv := mv) he
      obtain ⟨g, hg, hf⟩ := settle (d := d) ho eb hr'
      have := lawL_is eb hr' hf (ks.length + 2) 0 (Nat.zero_le _) (by omega)
      rw [pfin_eq hf hg]
      exact this
/-- what a beat is worth: a potential -/
theorem beat_pot {b : Int} (ho : out ∈ ks) (he : ∀ w ∈ ws, w.1 ∈ ks ∧ w.2.1 ∈ ks) (h : beatOf out ks d ws mv = some b) :
    ∃ L : α → Int, (∀ k, d k ≤ L k) ∧ (∀ k ∈ ks, L k ≤ b) ∧ (∀ w ∈ ws, rg mv w = 0 → w.1 ≠ out → L w.1 + d w.2.1 ≤ L w.2.1) ∧ (∀ w ∈ ws, 0 ≤ rg mv w) := by
  unfold beatOf at h
  split at h
  · cases h
  · rename_i hneg
    split at h
    · cases h
    · rename_i hr
      have hr' : ring (inner out (bareOf ws mv)) = false := by simpa using hr
      have eb := ends_bare (mv := mv) he
      obtain ⟨g, hg, hf⟩ := settle (d := d) ho eb hr'
      have e := Option.some.inj h
      rw [pfin_eq hf hg] at e
      refine ⟨iter (lround out d (bareOf ws mv)) (g + 1) d, fun k => iter_ge _ k, fun k hk => ?_, fun w hw h0 hn => ?_, fun w hw => ?_⟩
      · rw [← e]
        exact maxL_ge (List.mem_map.mpr ⟨k, hk, rfl⟩)
      · have := lround_edge (x := iter (lround out d (bareOf ws mv)) (g + 1) d) (d := d) (mem_bareOf.mpr ⟨w, hw, h0, rfl⟩) hn
        rw [hf] at this
        exact this
      · by_cases c : rg mv w < 0
        · exact absurd (List.any_eq_true.mpr ⟨rg mv w, List.mem_map.mpr ⟨w, hw, rfl⟩, decide_eq_true c⟩) hneg
        · omega
/-- a bound -/
theorem beat_le {b B : Int} (ho : out ∈ ks) (he : ∀ w ∈ ws, w.1 ∈ ks ∧ w.2.1 ∈ ks) (hB : 0 ≤ B) (hd : ∀ k, d k ≤ B) (h : beatOf out ks d ws mv = some b) : b ≤ (ks.length + 1) * B := by
  unfold beatOf at h
  split at h
  · cases h
  · split at h
    · cases h
    · rename_i hr
      have hr' : ring (inner out (bareOf ws mv)) = false := by simpa using hr
      have eb := ends_bare (mv := mv) he
      obtain ⟨g, hg, hf⟩ := settle (d := d) ho eb hr'
      have e := Option.some.inj h
      rw [pfin_eq hf hg] at e
      have all : ∀ (n : Nat) (v : α), iter (lround out d (bareOf ws mv)) n d v ≤ (n + 1) * B := by
        intro n
        induction n with
        | zero => intro v; have := hd v; show d v ≤ _; simpa using this
        | succ n ih =>
          intro v
          have e : ((n + 1 : Nat) + 1 : Int) * B = (n + 1) * B + B := by
            rw [Int.add_mul ((n + 1 : Nat) : Int) 1 B, Int.one_mul]
            rfl
          rcases lround_or (out := out) (d := d) (bare := bareOf ws mv) (x := iter (lround out d (bareOf ws mv)) n d) v with q | ⟨w, _, _, h2, h3⟩
          · show lround out d _ _ v ≤ _
            rw [q, e]
            have := ih v
            omega
          · show lround out d _ _ v ≤ _
            rw [h3, e]
            have := ih w.1
            have := hd v
            omega
      have ne : ks.map (iter (lround out d (bareOf ws mv)) (g + 1) d) ≠ [] := fun z => by
        rw [List.map_eq_nil_iff] at z
        subst z
        cases ho
      obtain ⟨k, hk, q⟩ := List.mem_map.mp (maxL_mem ne)
      rw [← e, ← q]
      refine Int.le_trans (all (g + 1) k) (Int.mul_le_mul_of_nonneg_right ?_ hB)
      omega
theorem beat_congr {mv' : α → Int} (h : ∀ k, mv k = mv' k) : beatOf out ks d ws mv = beatOf out ks d ws mv' := by
  have : mv = mv' := funext h
  rw [this]
/-- a wire with a register more changes nothing -/
theorem beat_more {w : Wire α} (h : 0 < w.2.2) : beatOf out ks d (ws ++ [w]) (fun _ => 0) = beatOf out ks d ws (fun _ => 0) := by
  have r : rg (fun _ : α => (0 : Int)) w = w.2.2 := by
    show w.2.2 + 0 - 0 = w.2.2
    omega
  have e1 : bareOf (ws ++ [w]) (fun _ => 0) = bareOf ws (fun _ => 0) := by
    unfold bareOf
    rw [List.filter_append, List.map_append]
    have : ([w].filter fun w => decide (rg (fun _ : α => (0 : Int)) w = 0)) = [] := by
      rw [List.filter_cons, if_neg (by rw [r]; simp; omega)]
      rfl
    rw [this]
    simp
  have e2 : (regs (ws ++ [w]) (fun _ : α => (0 : Int))).any (fun r => decide (r < 0)) = (regs ws (fun _ => 0)).any (fun r => decide (r < 0)) := by
    unfold regs
    rw [List.map_append, List.any_append]
    have : ([w].map (rg (fun _ : α => (0 : Int)))).any (fun r => decide (r < 0)) = false := by
      show (decide (rg (fun _ : α => (0 : Int)) w < 0) || false) = false
      rw [r, Bool.or_false]
      exact decide_eq_false (by omega)
    rw [this, Bool.or_false]
  unfold beatOf
  rw [e1, e2]
end
end
end Bw

/-! #### R1 -/
set_option Elab.async false
set_option linter.all false
set_option maxRecDepth 100000
set_option maxHeartbeats 4000000
/-! rules that the layer lacks, 1: what a for walks -/
namespace Bw
open PySem PySem.Spec PyProof.Rows L2
section
variable {X : Cx}
theorem pi_or {tg e : Expr} {w1 w2 : TI} (h1 : PI X tg e w1) (h2 : PI X tg e w2) : PI X tg e (fun σ H R => w1 σ H R ∨ w2 σ H R) :=
  ⟨fun pins s σ H R I h => h.elim (h1.run pins s σ H R I) (h2.run pins s σ H R I)⟩
theorem pe_or2 {e : Expr} {t1 t2 : TE} (h1 : PE X e t1) (h2 : PE X e t2) : PE X e (fun σ H Q => t1 σ H Q ∨ t2 σ H Q) :=
  ⟨fun pins s σ H Q I h => h.elim (h1.run pins s σ H Q I) (h2.run pins s σ H Q I)⟩
end

/-! ### enumerate over what draws -/
/-- the tuple at a, each item in a new pair -/
def IeT (K : PySem.W.Frag) (a : Addr) : It :=
  ⟨fun i H => ∃ (xs : List V) (x : V), SqT K H a xs ∧ xs[i]? = some x, fun i H v H' => ∃ T x, v = .ref T ∧ H T = none ∧ H' = upd H T (.tup [.int (i : Nat), x]) ∧ ∀ xs, SqT K H a xs → xs[i]? = some x, fun i H => ∃ xs : List V, SqT K H a xs ∧ xs.length = i⟩
theorem turn_enumT {P : Program} {w : World} {K : PySem.W.Frag} {elts : List Expr} {kk : Nat} {tpos : Pos} (a e it : Addr) :
    Turn P w K (.Tuple elts kk tpos) (IeT K a) [e, it] e (fun i h => (∃ old, IsEnum h e it ((i : Nat) : Int) old) ∧ h.IsTupleIter it a i ∧ e ≠ it ∧ a ≠ it ∧ e ≠ a) where
  mem := by simp
  obj := fun i h st b hb => by
    obtain ⟨⟨old, he⟩, ⟨o, ho, hc, hd⟩, _⟩ := st
    have e' : b = e ∨ b = it := by simpa using hb
    rcases e' with z | z
    · rw [z]; exact ⟨_, he, fun v q => nomatch q⟩
    · rw [z]; exact ⟨o, ho, fun v q => by rw [hd] at q; cases q⟩
  keep := fun i h h' st k => let ⟨⟨old, he⟩, hi, hne⟩ := st; ⟨⟨old, k e (by simp) _ he⟩, hi.at fun o q => k it (by simp) o q, hne⟩
  item := by
    intro X hP hw hK hc i pins s σ H E I hf st hg
    subst hP hw hK
    obtain ⟨⟨old, he⟩, hit, hne, hai, hea⟩ := st
    obtain ⟨xs, x, hq, hx⟩ := hg
    obtain ⟨its, rv, p, hz⟩ := I.tuple hq
    obtain ⟨u, hu, ru⟩ := rv.get hx
    have hel : e < s.heap.objs.size := Heap.lt_size he
    have hil : it < s.heap.objs.size := by obtain ⟨_, q, _⟩ := hit; exact Heap.lt_size q
    have hlt : i < its.toArray.size := by
      have := (List.getElem?_eq_some_iff.mp hu).1
      simpa using this
    have D : Draws X.prog X.w X.A.in1 it [it, a] its.toArray.size (fun i v => its.toArray[i]? = some v) (fun i h => h.IsTupleIter it a i ∧ h.IsTuple a its.toArray) := Draws.tuple (show X.A.in1.handled = none from I.ok.hd hc) it a hai its.toArray
    refine wpAny_pyNext_enum_itemD D he ⟨hit, p⟩ hlt hne (by simp [hne, hea]) fun y h' tk hy ho hst' hT hsz hk => ?_
    have ey : y = u := by
      have : its[i]? = some y := by simpa using hy
      rw [hu] at this
      exact (Option.some.inj this).symm
    subst ey
    refine ⟨_, rfl, wpAny_letOwnedTupleGo_enum (s := { s with heap := h', toks := tk + 1 }) ho fun h'' he' sb => ?_⟩
    have hT2 : h''.get? s.heap.objs.size = some { cls := .type "tuple", data := .seq #[.int i tk, y] } := (sb.2 _ (Nat.ne_of_gt hel)).trans hT
    have new : ObjOk X.prog X.w (upd H s.heap.objs.size (.tup [.int (i : Nat), x])) h'' s.heap.objs.size (.tup [.int (i : Nat), x]) :=
      ⟨by show 2 ≤ sizeLine; decide, [.int i tk, y], .cons ⟨_, rfl⟩ (.cons ru .nil), ⟨_, hT2, rfl, _, rfl⟩⟩
    have I1 : Inv X pins σ (upd H s.heap.objs.size (.tup [.int (i : Nat), x])) { s with heap := h'', toks := tk + 1 } :=
      I.turnedNew (ch := [e, it]) (fun b ob hb q => (sb.2 b (fun z => hb (by simp [z]))).trans (hk b ob (fun z => hb (by simp [z])) (fun z => hb (by simp [z])) q)) hf (Nat.le_refl _) new
    refine ⟨.ref s.heap.objs.size, _, I1, rfl, ⟨_, x, rfl, I.hok.fresh (Nat.le_refl _), rfl, fun ys hy => by rw [I.tuple_inj hy hq]; exact hx⟩, ⟨⟨y, ?_⟩, hst'.1.at fun o q => (sb.2 it (Ne.symm hne)).trans q, hne, hai, hea⟩, fun b hb => ?_⟩
    · have e1 : ((i + 1 : Nat) : Int) = (i : Int) + 1 := by omega
      rw [e1]; exact he'
    · have hb' : b < s.heap.objs.size := by
        have e' : b = e ∨ b = it := by simpa using hb
        rcases e' with z | z
        · rw [z]; exact hel
        · rw [z]; exact hil
      rw [upd_ne (Nat.ne_of_lt hb')]
      exact (hf b hb).1
  done := by
    intro X hP hw hK hc i pins s σ H E I hf st hg
    subst hP hw hK
    obtain ⟨⟨old, he⟩, hit, hne, hai, hea⟩ := st
    obtain ⟨xs, hq, hx⟩ := hg
    obtain ⟨its, rv, p, hz⟩ := I.tuple hq
    obtain ⟨f0, f1, f2, f3, f4, f5⟩ := hf it (by simp)
    have hl := rv.length
    have D : Draws X.prog X.w X.A.in1 it [it, a] its.toArray.size (fun i v => its.toArray[i]? = some v) (fun i h => h.IsTupleIter it a i ∧ h.IsTuple a its.toArray) := Draws.tuple (show X.A.in1.handled = none from I.ok.hd hc) it a hai its.toArray
    have ei : its.toArray.size = i := by simp; omega
    exact wpAny_pyNext_enum_endD D he (by rw [ei]; exact ⟨hit, p⟩) fun h' eb => ⟨rfl, I.turned (t' := s.toks) (fun b o hb q => eb b o hb q) f0 f1 f3 f4 f5⟩
  self := fun A i s Q E st h => let ⟨⟨_, he⟩, _⟩ := st; wpAny_pyIter_enum he h

theorem meets_enum_newT {v : Value} {o : Obj} {G : Heap → Prop} (B : Begins v o G) :
    Meets (Builtin.«enumerate.__new__» ⟨[.type "enumerate", v], []⟩) (fun _ R s => G s.heap ∧
      R (.ok (.ret (.ref (s.heap.push o).objs.size))) { s with heap := (s.heap.push o).push { cls := .type "enumerate", data := .fields #[.none, .bool false, .ref s.heap.objs.size, rawInt 0, .none, .none] } }) :=
  .of_wp fun prog w A R s h => by
    obtain ⟨hp, g, d, tk, os⟩ := s; obtain ⟨h1, h⟩ := h
    have hsub := sub_enumerate
    have q1 : ∀ {A' : Around} {E : Value → Shared → Prop} {Q : Value → Shared → Prop}, Q (.ref hp.objs.size) ⟨hp.push o, g, d, tk, os⟩ → wpAny (model prog w) A' (pyIter v) Q E ⟨hp, g, d, tk, os⟩ :=
      fun q => B.iter prog w _ _ ⟨hp, g, d, tk, os⟩ _ h1 q
    wp_walk using q1
    refine wpAny_stack_any fun st => wpAny_pure ?_
    split
    · rename_i c _ _ _ _ _
      cases (c == Value.type "enumerate")
      · wp_walk using q1
        exact ⟨_, rfl, h⟩
      · wp_walk using q1
        exact ⟨_, rfl, h⟩
    · wp_walk using q1
      exact ⟨_, rfl, h⟩
section
variable {prog : Program} {w : World} {A : Around} {E : Value → Shared → Prop} {s : Shared}
theorem enum_from0 {v : Value} {o : Obj} {G : Heap → Prop} {Q : Value → Shared → Prop} (B : Begins v o G) (h1 : G s.heap)
    (h : ∀ h', IsEnum h' (s.heap.objs.size + 1) s.heap.objs.size 0 .none → h'.get? s.heap.objs.size = some o → h'.objs.size = s.heap.objs.size + 2 →
      (∀ b o, s.heap.get? b = some o → h'.get? b = some o) → Q (.ref (s.heap.objs.size + 1)) { s with heap := h' }) :
    wpAny (model prog w) A (call (.type "enumerate") [v]) Q E s := by
  refine callType_new F.called_enumerate (by decide) (F.typeCall_enumerate_1 _) (F.newCall_enumerate_1 _) (fun obj => F.args_object_init_2 obj _) F.entry_enumerate_new
    (meets_enum_newT B) ⟨h1, ?_⟩
  have hz : (s.heap.push o).objs.size = s.heap.objs.size + 1 := Heap.size_push ..
  show _ ∧ _
  rw [hz]
  have he : IsEnum ((s.heap.push o).push { cls := .type "enumerate", data := .fields #[.none, .bool false, .ref s.heap.objs.size, rawInt 0, .none, .none] }) (s.heap.objs.size + 1) s.heap.objs.size 0 .none := by
    have := Heap.get?_push_size (s.heap.push o) (o := { cls := .type "enumerate", data := .fields #[.none, .bool false, .ref s.heap.objs.size, rawInt 0, .none, .none] }) rfl
    rw [hz] at this; exact this
  exact ⟨⟨_, he, rfl⟩, h _ he (Heap.get?_push_of_some _ (Heap.get?_push_size _ B.free)) (by rw [Heap.size_push, hz]) fun b o x => Heap.get?_push_of_some _ (Heap.get?_push_of_some _ x)⟩
end
def iEnumT (K : PySem.W.Frag) (ta : TA) : TI := fun σ H R => ta σ H fun vs H1 => ∃ a xs, vs = [.ref a] ∧ SqT K H1 a xs ∧ R (IeT K a) H1
theorem pi_enumT {X : Cx} {e : Expr} {ta : TA} {p pos tpos : Pos} {elts : List Expr} {kk : Nat} (hg : Gl X "enumerate") (hm : X.mg "enumerate" = none) (ha : PA X [e] ta) (hs : starEach [e] X.env = [(false, eval e X.env)] := by rfl) :
    PI X (.Tuple elts kk tpos) (.Call (.Name "enumerate" p) [e] [] pos) (iEnumT X.K ta) := by
  refine ⟨fun pins s σ H R I h => ?_⟩
  refine Call_ (ld_blt I hg hm boot_enumerate (PyProof.Rows.callWith_type1 (thn (ha.run pos pins s σ H _ I h) fun us s1 ⟨vs, H1, I1, r1, q1⟩ => ?_) hs rfl))
  obtain ⟨a, xs, ex, hq, q⟩ := q1
  subst ex
  cases r1 with
  | cons r rr =>
    cases rr
    cases r
    obtain ⟨its, rv, p', hz⟩ := I1.tuple hq
    refine enum_from0 (begins_tuple a its.toArray) p' fun h' he hit hsz hk => wpAny_pyIter_enum he ?_
    have I2 : Inv X pins σ H1 { s1 with heap := h' } := I1.kept (t' := s1.toks) hk
    have la : a < s1.heap.objs.size := p'.lt
    refine ⟨s1.heap.objs.size + 1, [s1.heap.objs.size + 1, s1.heap.objs.size], _, _, H1, rfl, I2, turn_enumT a (s1.heap.objs.size + 1) s1.heap.objs.size, ⟨⟨.none, he⟩, ⟨_, hit, rfl, rfl⟩, Nat.succ_ne_self _, Nat.ne_of_lt la, Nat.ne_of_gt (Nat.lt_succ_of_lt la)⟩, fun b hb => ?_, q⟩
    have e' : b = s1.heap.objs.size + 1 ∨ b = s1.heap.objs.size := by simpa using hb
    have hle : s1.heap.objs.size ≤ b := by
      rcases e' with z | z
      · rw [z]; exact Nat.le_add_right _ _
      · rw [z]; exact Nat.le_refl _
    exact I1.fpOk hle (I1.hok.fresh hle)
theorem walk_enumT {K : PySem.W.Frag} {a : Addr} {xs : List V} : Walk (IeT K a) xs.length (fun H => SqT K H a xs) (YPair (fun i => some (.int (i : Nat))) (fun i => xs[i]?)) := by
  refine ⟨fun i _ hi q => ⟨xs, xs[i], q, by simp [hi]⟩, fun _ q => ⟨xs, q, rfl⟩, fun i H v H' _ q y => ?_⟩
  obtain ⟨T, x, h1, h2, h3, h4⟩ := y
  exact ⟨T, .int (i : Nat), x, h1, h2, h3, rfl, h4 xs q⟩

/-! ### enumerate(text) -/
def IeS (z : Str) : It :=
  ⟨fun i _ => i < z.cps.size, fun i H v H' => ∃ T c, v = .ref T ∧ H T = none ∧ H' = upd H T (.tup [.int (i : Nat), .str ⟨#[c]⟩]) ∧ z.cps[i]? = some c, fun i _ => i = z.cps.size⟩
theorem turn_enumS {P : Program} {w : World} {K : PySem.W.Frag} {elts : List Expr} {kk : Nat} {tpos : Pos} (z : Str) (t : Tok) (e it : Addr) :
    Turn P w K (.Tuple elts kk tpos) (IeS z) [e, it] e (fun i h => (∃ old, IsEnum h e it ((i : Nat) : Int) old) ∧ h.IsStrIter it (strIterType z) z t i ∧ e ≠ it) where
  mem := by simp
  obj := fun i h st b hb => by
    obtain ⟨⟨old, he⟩, ⟨o, ho, hc, hd⟩, _⟩ := st
    have e' : b = e ∨ b = it := by simpa using hb
    rcases e' with z | z
    · rw [z]; exact ⟨_, he, fun v q => nomatch q⟩
    · rw [z]; exact ⟨o, ho, fun v q => by rw [hd] at q; cases q⟩
  keep := fun i h h' st k => by
    obtain ⟨⟨old, he⟩, ⟨o, ho, r⟩, hne⟩ := st
    exact ⟨⟨old, k e (by simp) _ he⟩, ⟨o, k it (by simp) _ ho, r⟩, hne⟩
  item := by
    intro X hP hw hK hc i pins s σ H E I hf st hg
    subst hP hw hK
    obtain ⟨⟨old, he⟩, hit, hne⟩ := st
    have hlt : i < z.cps.size := hg
    have hel : e < s.heap.objs.size := Heap.lt_size he
    have hil : it < s.heap.objs.size := by obtain ⟨_, q, _⟩ := hit; exact Heap.lt_size q
    refine wpAny_pyNext_enum_itemD (Draws.text (show X.A.in1.handled = none from I.ok.hd hc) it z t) he hit hlt hne (by simp [hne]) fun y h' tk hy ho hst' hT hsz hk => ?_
    obtain ⟨c, u, hcc, ey⟩ := hy
    subst ey
    refine ⟨_, rfl, wpAny_letOwnedTupleGo_enum (s := { s with heap := h', toks := tk + 1 }) ho fun h'' he' sb => ?_⟩
    have hT2 : h''.get? s.heap.objs.size = some { cls := .type "tuple", data := .seq #[.int i tk, .str ⟨#[c]⟩ u] } := (sb.2 _ (Nat.ne_of_gt hel)).trans hT
    have new : ObjOk X.prog X.w (upd H s.heap.objs.size (.tup [.int (i : Nat), .str ⟨#[c]⟩])) h'' s.heap.objs.size (.tup [.int (i : Nat), .str ⟨#[c]⟩]) :=
      ⟨by show 2 ≤ sizeLine; decide, [.int i tk, .str ⟨#[c]⟩ u], .cons ⟨_, rfl⟩ (.cons ⟨_, rfl⟩ .nil), ⟨_, hT2, rfl, _, rfl⟩⟩
    have I1 : Inv X pins σ (upd H s.heap.objs.size (.tup [.int (i : Nat), .str ⟨#[c]⟩])) { s with heap := h'', toks := tk + 1 } :=
      I.turnedNew (ch := [e, it]) (fun b ob hb q => (sb.2 b (fun z => hb (by simp [z]))).trans (hk b ob (fun z => hb (by simp [z])) (fun z => hb (by simp [z])) q)) hf (Nat.le_refl _) new
    refine ⟨.ref s.heap.objs.size, _, I1, rfl, ⟨_, c, rfl, I.hok.fresh (Nat.le_refl _), rfl, hcc⟩, ⟨⟨.str ⟨#[c]⟩ u, ?_⟩, ?_, hne⟩, fun b hb => ?_⟩
    · have e1 : ((i + 1 : Nat) : Int) = (i : Int) + 1 := by omega
      rw [e1]; exact he'
    · obtain ⟨o, ho', r⟩ := hst'
      exact ⟨o, (sb.2 it (Ne.symm hne)).trans ho', r⟩
    · have hb' : b < s.heap.objs.size := by
        have e' : b = e ∨ b = it := by simpa using hb
        rcases e' with z | z
        · rw [z]; exact hel
        · rw [z]; exact hil
      rw [upd_ne (Nat.ne_of_lt hb')]
      exact (hf b hb).1
  done := by
    intro X hP hw hK hc i pins s σ H E I hf st hg
    subst hP hw hK
    obtain ⟨⟨old, he⟩, hit, hne⟩ := st
    obtain ⟨f0, f1, f2, f3, f4, f5⟩ := hf it (by simp)
    have ei : i = z.cps.size := hg
    exact wpAny_pyNext_enum_endD (Draws.text (show X.A.in1.handled = none from I.ok.hd hc) it z t) he (by rw [← ei]; exact hit) fun h' eb => ⟨rfl, I.turned (t' := s.toks) (fun b o hb q => eb b o hb q) f0 f1 f3 f4 f5⟩
  self := fun A i s Q E st h => let ⟨⟨_, he⟩, _⟩ := st; wpAny_pyIter_enum he h
def iEnumS (ta : TA) : TI := fun σ H R => ta σ H fun vs H1 => ∃ z, vs = [.str z] ∧ R (IeS z) H1
theorem pi_enumS {X : Cx} {e : Expr} {ta : TA} {p pos tpos : Pos} {elts : List Expr} {kk : Nat} (hg : Gl X "enumerate") (hm : X.mg "enumerate" = none) (ha : PA X [e] ta) (hs : starEach [e] X.env = [(false, eval e X.env)] := by rfl) :
    PI X (.Tuple elts kk tpos) (.Call (.Name "enumerate" p) [e] [] pos) (iEnumS ta) := by
  refine ⟨fun pins s σ H R I h => ?_⟩
  refine Call_ (ld_blt I hg hm boot_enumerate (PyProof.Rows.callWith_type1 (thn (ha.run pos pins s σ H _ I h) fun us s1 ⟨vs, H1, I1, r1, q1⟩ => ?_) hs rfl))
  obtain ⟨z, ex, q⟩ := q1
  subst ex
  cases r1 with
  | cons r rr =>
    cases rr
    obtain ⟨t, rfl⟩ := r
    refine call_enumerate_str fun h' he hit hsz hk => wpAny_pyIter_enum he ?_
    have I2 : Inv X pins σ H1 { s1 with heap := h' } := I1.kept (t' := s1.toks) hk
    refine ⟨s1.heap.objs.size + 1, [s1.heap.objs.size + 1, s1.heap.objs.size], _, _, H1, rfl, I2, turn_enumS z t (s1.heap.objs.size + 1) s1.heap.objs.size, ⟨⟨.none, he⟩, hit, Nat.succ_ne_self _⟩, fun b hb => ?_, q⟩
    have e' : b = s1.heap.objs.size + 1 ∨ b = s1.heap.objs.size := by simpa using hb
    have hle : s1.heap.objs.size ≤ b := by
      rcases e' with z | z
      · rw [z]; exact Nat.le_add_right _ _
      · rw [z]; exact Nat.le_refl _
    exact I1.fpOk hle (I1.hok.fresh hle)
theorem walk_enumS {z : Str} : Walk (IeS z) z.cps.size (fun _ => True) (YPair (fun i => some (.int (i : Nat))) (fun i => z.cps[i]?.map fun c => .str ⟨#[c]⟩)) := by
  refine ⟨fun i _ hi q => hi, fun _ q => rfl, fun i H v H' _ q y => ?_⟩
  obtain ⟨T, c, h1, h2, h3, h4⟩ := y
  exact ⟨T, .int (i : Nat), .str ⟨#[c]⟩, h1, h2, h3, rfl, by show Option.map _ z.cps[i]? = _; rw [h4]; rfl⟩

/-! ### zip of a tuple and a list -/
def ItzM (K : PySem.W.Frag) (a b : Addr) : It :=
  ⟨fun i H => ∃ (xs ys : List V) (x y : V), SqT K H a xs ∧ SqL K H b ys ∧ xs[i]? = some x ∧ ys[i]? = some y,
    fun i H v H' => ∃ T x y, v = .ref T ∧ H T = none ∧ H' = upd H T (.tup [x, y]) ∧ (∀ xs, SqT K H a xs → xs[i]? = some x) ∧ ∀ ys, SqL K H b ys → ys[i]? = some y,
    fun i H => ∃ xs ys : List V, SqT K H a xs ∧ SqL K H b ys ∧ xs.length = i ∧ ys.length = i⟩
theorem turn_zipM {P : Program} {w : World} {K : PySem.W.Frag} {elts : List Expr} {kk : Nat} {tpos : Pos} {a b z TI TO i1 i2 : Addr} (S : ZipSep2 z TI TO i1 i2 [i1, a] [i2, b]) (n1 : a ≠ i1) (n2 : b ≠ i2) :
    Turn P w K (.Tuple elts kk tpos) (ItzM K a b) [z, TI, TO, i1, i2] z (fun i h => IsZip h z TI TO .none ∧ IsTupOf2 h TI (.ref i1) (.ref i2) ∧ (∃ x y, IsTupOf2 h TO x y) ∧ h.IsTupleIter i1 a i ∧ h.IsListIter i2 b i) where
  mem := by simp
  obj := fun i h st c hc => by
    obtain ⟨hz, hTI, ⟨x, y, hTO⟩, ⟨o1, e1, _, d1⟩, ⟨o2, e2, _, d2⟩⟩ := st
    have e' : c = z ∨ c = TI ∨ c = TO ∨ c = i1 ∨ c = i2 := by simpa using hc
    rcases e' with q | q | q | q | q
    · rw [q]; exact ⟨_, hz, fun v q => nomatch q⟩
    · rw [q]; exact ⟨_, hTI, fun v q => nomatch q⟩
    · rw [q]; exact ⟨_, hTO, fun v q => nomatch q⟩
    · rw [q]; exact ⟨o1, e1, fun v q => by rw [d1] at q; cases q⟩
    · rw [q]; exact ⟨o2, e2, fun v q => by rw [d2] at q; cases q⟩
  keep := fun i h h' st k => by
    obtain ⟨hz, hTI, ⟨x, y, hTO⟩, h1, h2⟩ := st
    exact ⟨k z (by simp) _ hz, k TI (by simp) _ hTI, ⟨x, y, k TO (by simp) _ hTO⟩, h1.at fun o q => k i1 (by simp) o q, h2.at fun o q => k i2 (by simp) o q⟩
  item := by
    intro X hP hw hK hc i pins s σ H E I hf st hg
    subst hP hw hK
    obtain ⟨hz, hTI, ⟨x0, y0, hTO⟩, h1, h2⟩ := st
    obtain ⟨xs, ys, x, y, hqx, hqy, hx, hy⟩ := hg
    obtain ⟨its, rv, p, _⟩ := I.tuple hqx
    obtain ⟨its2, rv2, p2, _⟩ := I.list hqy
    obtain ⟨u, hu, ru⟩ := rv.get hx
    obtain ⟨u2, hu2, ru2⟩ := rv2.get hy
    have hzl : z < s.heap.objs.size := Heap.lt_size hz
    have l1 : i < its.toArray.size := by
      have := (List.getElem?_eq_some_iff.mp hu).1
      simpa using this
    have l2 : i < its2.toArray.size := by
      have := (List.getElem?_eq_some_iff.mp hu2).1
      simpa using this
    refine wpAny_pyNext_zipD2_item S (Draws.tuple (show X.A.in1.handled = none from I.ok.hd hc) i1 a n1 its.toArray) (Draws.list (show X.A.in1.handled = none from I.ok.hd hc) i2 b n2 its2.toArray) hz hTI hTO ⟨h1, p⟩ ⟨h2, p2.isList⟩ l1 l2 fun v1 v2 h' tk y1 y2 z' TO' s1' s2' hT hsz hk => ?_
    have e1 : v1 = u := by
      have : its[i]? = some v1 := by simpa using y1
      rw [hu] at this
      exact (Option.some.inj this).symm
    have e2 : v2 = u2 := by
      have : its2[i]? = some v2 := by simpa using y2
      rw [hu2] at this
      exact (Option.some.inj this).symm
    subst e1 e2
    refine ⟨_, rfl, wpAny_letOwnedTupleGo_zip (s := { s with heap := h', toks := tk }) z' fun h'' z'' sb => ?_⟩
    have hT2 : h''.get? s.heap.objs.size = some { cls := .type "tuple", data := .seq #[v1, v2] } := (sb.2 _ (Nat.ne_of_gt hzl)).trans hT
    have new : ObjOk X.prog X.w (upd H s.heap.objs.size (.tup [x, y])) h'' s.heap.objs.size (.tup [x, y]) :=
      ⟨by show 2 ≤ sizeLine; decide, [v1, v2], .cons ru (.cons ru2 .nil), ⟨_, hT2, rfl, _, rfl⟩⟩
    have I1 : Inv X pins σ (upd H s.heap.objs.size (.tup [x, y])) { s with heap := h'', toks := tk } :=
      I.turnedNew (t' := tk) (ch := [z, TI, TO, i1, i2]) (fun c o hb q => (sb.2 c (fun q' => hb (by simp [q']))).trans (hk c o (fun q' => hb (by simp [q'])) (fun q' => hb (by simp [q'])) (fun q' => hb (by simp [q'])) (fun q' => hb (by simp [q'])) q)) hf (Nat.le_refl _) new
    refine ⟨.ref s.heap.objs.size, _, I1, rfl, ⟨_, x, y, rfl, I.hok.fresh (Nat.le_refl _), rfl, fun l hl => by rw [I.tuple_inj hl hqx]; exact hx, fun l hl => by rw [I.list_inj hl hqy]; exact hy⟩, ⟨z'', ?_, ⟨v1, v2, ?_⟩, ?_, ?_⟩, fun c hcm => ?_⟩
    · exact (sb.2 _ S.TIz).trans (hk _ _ S.TIz S.TITO S.TIi1 S.TIi2 hTI)
    · exact (sb.2 _ S.TOz).trans TO'
    · exact s1'.1.at fun o q => (sb.2 _ (Ne.symm S.zi1)).trans q
    · exact s2'.1.at fun o q => (sb.2 _ (Ne.symm S.zi2)).trans q
    · have hlt : c < s.heap.objs.size := by
        have e' : c = z ∨ c = TI ∨ c = TO ∨ c = i1 ∨ c = i2 := by simpa using hcm
        rcases e' with q | q | q | q | q
        · rw [q]; exact hzl
        · rw [q]; exact Heap.lt_size hTI
        · rw [q]; exact Heap.lt_size hTO
        · rw [q]; obtain ⟨_, e1, _⟩ := h1; exact Heap.lt_size e1
        · rw [q]; obtain ⟨_, e2, _⟩ := h2; exact Heap.lt_size e2
      rw [upd_ne (Nat.ne_of_lt hlt)]
      exact (hf c hcm).1
  done := by
    intro X hP hw hK hc i pins s σ H E I hf st hg
    subst hP hw hK
    obtain ⟨hz, hTI, ⟨x0, y0, hTO⟩, h1, h2⟩ := st
    obtain ⟨xs, ys, hqx, hqy, e1, e2⟩ := hg
    obtain ⟨its, rv, p, _⟩ := I.tuple hqx
    obtain ⟨its2, rv2, p2, _⟩ := I.list hqy
    have l1 := rv.length
    have l2 := rv2.length
    have k1 : its.toArray.size = i := by simp; omega
    have k2 : its2.toArray.size = i := by simp; omega
    exact wpAny_pyNext_zipD2_end S (Draws.tuple (show X.A.in1.handled = none from I.ok.hd hc) i1 a n1 its.toArray) (Draws.list (show X.A.in1.handled = none from I.ok.hd hc) i2 b n2 its2.toArray) hz hTI hTO ⟨h1, p⟩ ⟨h2, p2.isList⟩ (Nat.le_of_eq k1.symm) (Nat.le_of_eq k2.symm) (.inl k1.symm)
      fun h' tk hk => ⟨rfl, I.turnedL (t' := tk) (ch := [z, TI, TO, i1, i2]) (fun c o hb q => hk c o (fun q' => hb (by simp [q'])) (fun q' => hb (by simp [q'])) (fun q' => hb (by simp [q'])) (fun q' => hb (by simp [q'])) q) hf⟩
  self := fun A i s Q E st h => wpAny_pyIter_zip st.1 h
def iZipM (K : PySem.W.Frag) (ta : TA) : TI := fun σ H R => ta σ H fun vs H1 => ∃ a b xs ys, vs = [.ref a, .ref b] ∧ SqT K H1 a xs ∧ SqL K H1 b ys ∧ R (ItzM K a b) H1
theorem pi_zipM {X : Cx} {e e2 : Expr} {ta : TA} {p pos tpos : Pos} {elts : List Expr} {kk : Nat} (hg : Gl X "zip") (hm : X.mg "zip" = none) (ha : PA X [e, e2] ta)
    (hs : starEach [e, e2] X.env = (false, eval e X.env) :: starEach [e2] X.env := by rfl) (hpl : (backTo pos (starEach [e2] X.env)).any (·.1) = false := by rfl) :
    PI X (.Tuple elts kk tpos) (.Call (.Name "zip" p) [e, e2] [] pos) (iZipM X.K ta) := by
  refine ⟨fun pins s σ H R I h => ?_⟩
  refine Call_ (ld_blt I hg hm PyProof.Rows.boot_zip (PyProof.Rows.callWith_type1 (thn (ha.run pos pins s σ H _ I h) fun us s1 ⟨vs, H1, I1, r1, q1⟩ => ?_) hs hpl))
  obtain ⟨a, b, xs, ys, ex, hqx, hqy, q⟩ := q1
  subst ex
  cases r1 with
  | cons r rr =>
    cases rr with
    | cons r' rr =>
      cases rr
      cases r
      cases r'
      obtain ⟨its, rv, p1, _⟩ := I1.tuple hqx
      obtain ⟨its2, rv2, p2, _⟩ := I1.list hqy
      have la : a < s1.heap.objs.size := p1.lt
      have lb : b < s1.heap.objs.size := p2.lt
      refine zip_begins2 (begins_tuple a its.toArray) (begins_list b its2.toArray) p1 p2.isList fun h' hz hTI hTO h1 h2 hsz hk => wpAny_pyIter_zip hz ?_
      have I2 : Inv X pins σ H1 { s1 with heap := h' } := I1.kept (t' := s1.toks) hk
      have S : ZipSep2 (s1.heap.objs.size + 4) (s1.heap.objs.size + 2) (s1.heap.objs.size + 3) s1.heap.objs.size (s1.heap.objs.size + 1) [s1.heap.objs.size, a] [s1.heap.objs.size + 1, b] :=
        zip_sep2 (fp1 := [a]) (fp2 := [b]) (fun c hc => by rw [List.mem_singleton.mp hc]; exact la) (fun c hc => by rw [List.mem_singleton.mp hc]; exact lb)
      refine ⟨s1.heap.objs.size + 4, [s1.heap.objs.size + 4, s1.heap.objs.size + 2, s1.heap.objs.size + 3, s1.heap.objs.size, s1.heap.objs.size + 1], _, _, H1, rfl, I2, turn_zipM S (Nat.ne_of_lt la) (Nat.ne_of_lt (Nat.lt_succ_of_lt lb)), ⟨hz, hTI, ⟨_, _, hTO⟩, ⟨_, h1, rfl, rfl⟩, ⟨_, h2, rfl, rfl⟩⟩, fun c hcm => ?_, q⟩
      have e' : c = s1.heap.objs.size + 4 ∨ c = s1.heap.objs.size + 2 ∨ c = s1.heap.objs.size + 3 ∨ c = s1.heap.objs.size ∨ c = s1.heap.objs.size + 1 := by simpa using hcm
      have hle : s1.heap.objs.size ≤ c := by
        rcases e' with z | z | z | z | z
        · rw [z]; exact Nat.le_add_right _ _
        · rw [z]; exact Nat.le_add_right _ _
        · rw [z]; exact Nat.le_add_right _ _
        · rw [z]; exact Nat.le_refl _
        · rw [z]; exact Nat.le_add_right _ _
      exact I1.fpOk hle (I1.hok.fresh hle)
theorem walk_zipM {K : PySem.W.Frag} {a b : Addr} {xs ys : List V} (hn : xs.length = ys.length) : Walk (ItzM K a b) xs.length (fun H => SqT K H a xs ∧ SqL K H b ys) (YPair (fun i => xs[i]?) (fun i => ys[i]?)) := by
  refine ⟨fun i _ hi q => ?_, fun _ q => ⟨xs, ys, q.1, q.2, rfl, hn.symm⟩, fun i H v H' _ q y => ?_⟩
  · have h2 : i < ys.length := by omega
    exact ⟨xs, ys, xs[i], ys[i], q.1, q.2, by simp [hi], by simp [h2]⟩
  · obtain ⟨T, x, z, h1, h2, h3, h4, h5⟩ := y
    exact ⟨T, x, z, h1, h2, h3, h4 xs q.1, h5 ys q.2⟩
end Bw

/-! #### R2 -/
set_option Elab.async false
set_option linter.all false
set_option maxRecDepth 100000
set_option maxHeartbeats 4000000
/-! rules that the layer lacks, 2: dict(reversed(list)), list(text), list(d.values()), max(d.values()), a name stored by a dict comprehension -/
namespace PySem
open Sem (wp)
open MeetsSeq
theorem lri_no_keys : typeLookup (.type "list_reverseiterator") "keys" = pure none := am_miss_of_fast (by decide +kernel)
theorem lri_getattr_none : typeLookup (.type "list_reverseiterator") "__getattr__" = pure none := am_miss_of_fast (by decide +kernel)
theorem slot_lri_getattribute : Slot "list_reverseiterator" "__getattribute__" "object.__getattribute__" :=
  .of (owner := "object") (n := "__getattribute__") (by rw [typeLookup_type, builtinLookup_eq_fast]; kernel_rfl) (by decide +kernel) (by decide +kernel) (by decide +kernel)
    (by first | exact .inl (by decide +kernel) | exact .inr (by decide +kernel)) (by rw [isSubtype_type]; kernel_rfl)
theorem meets_miss_lri (a : Addr) (fs : Array Value) (sl : Array (Option Value)) (name : Str) (u : Tok) (hmiss : typeLookup (.type "list_reverseiterator") name = pure none) (hname : (["__module__", "__name__", "__qualname__", "__doc__", "__annotations__"] : List Str).contains name = false) (hsz : name.length + 100 ≤ sizeLine := by size_fits) :
    Meets (Builtin.«object.__getattribute__» ⟨[.ref a, .str name u], []⟩) (fun A R s => s.heap.get? a = some { cls := .type "list_reverseiterator", dict := none, data := .fields fs, slots := sl } ∧ raisesAttr (.ref a) name A R s) :=
  Meets.of_wp fun prog w A R s hs => by
    obtain ⟨hp, g, d, tk, os⟩ := s
    obtain ⟨hx, hs⟩ := hs
    have hT : (⟨hp, g, d, tk, os⟩ : Shared).TypeIs (.ref a) "list_reverseiterator" := ⟨_, hx, rfl⟩
    unfold Builtin.«object.__getattribute__»
    repeat (any_goals (first | assumption | wp_step))
    simp only [hname, Bool.false_eq_true, if_false]
    repeat (any_goals (first | assumption | wp_step))
    exact wpAny_raiseAttrError hs.1 hs.2 (attrMsg_fits (by decide +kernel) hsz)
theorem miss_lri {prog : Program} {w : World} {A : Around} {E : Value → Shared → Prop} {s : Shared} {a : Addr} {o : Obj} {fs : Array Value} {name : Str} {Q : Option Value → Shared → Prop} (hx : s.heap.get? a = some o) (hc : o.cls = .type "list_reverseiterator") (hdat : o.data = .fields fs) (hd : o.dict = none) (hmiss : typeLookup (.type "list_reverseiterator") name = pure none)
    (hname : (["__module__", "__name__", "__qualname__", "__doc__", "__annotations__"] : List Str).contains name = false) (hA : A.handled = none)
    (h : ∀ h' tk, (∀ b o, s.heap.get? b = some o → h'.get? b = some o) → Q none { s with heap := h', toks := tk }) (hsz : name.length + 100 ≤ sizeLine := by size_fits) :
    wpAny (model prog w) A (getAttr? (.ref a) name) Q E s := by
  obtain ⟨c, dct, dat, sl⟩ := o
  simp only at hc hdat hd
  subst hc hdat hd
  obtain ⟨hp, g, d, tk, os⟩ := s
  have hT : ∀ tk', (⟨hp, g, d, tk', os⟩ : Shared).TypeIs (.ref a) "list_reverseiterator" := fun _ => ⟨_, hx, rfl⟩
  have f1 := sub_AttributeError
  have f3 := slot_lri_getattribute.lookup
  have f4 := slot_lri_getattribute.bind (.ref a)
  have f5 := lri_getattr_none
  unfold getAttr? getAttrBy?
  repeat (any_goals (first | assumption | exact hT _ | ((with_reducible show wpAny _ _ (call (Value.builtin "object.__getattribute__") _ _) _ _ _); refine call_meets slot_lri_getattribute (hT _) F.entry_object_getattribute (F.args_object_getattribute_2 _ _) (meets_miss_lri a fs sl name _ hmiss hname hsz) ⟨hx, hA, fun h' tk' e hx' => ?_⟩) | wp_step))
  obtain ⟨t', u', he⟩ := hx'.there
  show wpAny _ _ (getattributeRaised _ _ _ _ _ _ _) _ _ _
  unfold getattributeRaised
  repeat (any_goals (first | assumption | wp_step))
  exact h _ _ hx'.keeps

/-- a reverse iterator at r over the list at a, not yet walked, as the argument of dict() -/
theorem PairArg.rev {prog : Program} {w : World} (r a : Addr) (items : Array Value) (Ts : Nat → Addr) (ps : List (Value × Value)) (hra : r ≠ a) :
    PairArg prog w "list_reverseiterator" r (r :: a :: (List.range ps.length).map Ts) [r] ps.length (fun i k v => i < ps.length ∧ ps[ps.length - 1 - i]? = some (k, v))
      (fun h => h.get? r = some (revObj a ((items.size : Int) - 1)) ∧ PlainSeq "list" h a items ∧ PairItems h items Ts ps) where
  type := fun s ok => ⟨_, ok.1, rfl⟩
  notDict := by decide
  keep := fun h h' ok hk => let ⟨hr, ⟨o, n, ho, r⟩, hp⟩ := ok; ⟨hk _ _ hr, ⟨o, n, hk _ _ ho, r⟩, hp.at fun j _ o e => hk _ o e⟩
  there := fun h ok b hb => by
    obtain ⟨hr, ⟨o, n, ho, _⟩, hp⟩ := ok
    rcases List.mem_cons.mp hb with rfl | hb
    · exact ⟨_, hr⟩
    · rcases List.mem_cons.mp hb with rfl | hb
      · exact ⟨o, ho⟩
      · obtain ⟨j, hj, rfl⟩ := List.mem_map.mp hb
        exact hp.there (List.mem_range.mp hj)
  sub := fun b hb => by
    rw [List.mem_singleton.mp hb]
    exact List.mem_cons_self
  noKeys := fun A s Q E hA ok h => miss_lri ok.1 rfl rfl rfl lri_no_keys (by decide +kernel) hA h
  iter := fun A s d Q E hA ok hd hdf h => by
    obtain ⟨hr, ⟨o, n, ho, hc, hdn, hdat⟩, hp⟩ := ok
    have hda : a ≠ d := fun e => hdf (e ▸ List.mem_cons_of_mem _ List.mem_cons_self)
    have hrd : r ≠ d := fun e => hdf (e ▸ List.mem_cons_self)
    have hdT : ∀ j, j < ps.length → Ts j ≠ d := fun j hj e => hdf (List.mem_cons_of_mem _ (List.mem_cons_of_mem _ (List.mem_map.mpr ⟨j, List.mem_range.mpr hj, e⟩)))
    have hTr : ∀ j, j < ps.length → Ts j ≠ r := fun j hj e => by
      obtain ⟨⟨k, v⟩, hkv⟩ : ∃ p, ps[j]? = some p := ⟨ps[j], List.getElem?_eq_getElem hj⟩
      obtain ⟨ob, e1, e2⟩ := (hp.2 j k v hkv).2.there
      rw [e, hr] at e1
      cases e1
      rcases e2 with z | z
      · exact absurd (show Value.type "list_reverseiterator" = Value.type "tuple" from z) (by decide)
      · exact absurd (show Value.type "list_reverseiterator" = Value.type "list" from z) (by decide)
    have hit : s.heap.IsRevIter r a ((items.size : Int) - 1) := ⟨_, hr, rfl, rfl⟩
    refine wpAny_pyIter_revIter hit (h r [r] (fun i h => i ≤ ps.length ∧ h.IsRevIter r a ((ps.length : Int) - 1 - (i : Nat)) ∧ h.IsList a items ∧ PairItems h items Ts ps) s.heap s.toks ?_ ?_ (fun _ _ e => e) fun b hb => .inl hb)
    · exact {
        off := fun hm => hrd (List.mem_singleton.mp hm).symm
        frame := fun i h₁ h₂ st hk => ⟨st.1, st.2.1.at fun o e => hk _ o hrd e, st.2.2.1.at fun o e => hk _ o hda e, st.2.2.2.at fun j hj o e => hk _ o (hdT j hj) e⟩
        item := fun i s₁ Q₁ E₁ hi st _ hQ => by
          obtain ⟨hin, hit, hl, hpi⟩ := st
          have hj : ps.length - 1 - i < ps.length := by omega
          obtain ⟨⟨k, v⟩, hkv⟩ : ∃ p, ps[ps.length - 1 - i]? = some p := ⟨ps[ps.length - 1 - i], List.getElem?_eq_getElem hj⟩
          have e1 : (ps.length : Int) - 1 - ((i : Nat) : Int) = ((ps.length - 1 - i : Nat) : Int) := by omega
          rw [e1] at hit
          refine wpAny_pyNext_rev_item hit hl (x := .ref (Ts (ps.length - 1 - i))) (hpi.2 _ k v hkv).1 fun h' hit' hs' => ?_
          have pi : PairItems h' items Ts ps := hpi.at fun j hj o e => hs'.extBut (Ts j) o (hTr j hj) e
          have e2 : ((ps.length - 1 - i : Nat) : Int) - 1 = (ps.length : Int) - 1 - ((i + 1 : Nat) : Int) := by omega
          rw [e2] at hit'
          exact hQ _ k v h' s₁.toks ⟨hi, hkv⟩ (pi.2 _ k v hkv).2 ⟨hi, hit', hl.at fun o' e => hs'.extBut a o' (Ne.symm hra) e, pi⟩ fun b o hb e => hs'.extBut b o (fun h => hb (by simp [h])) e
        done := fun s₁ Q₁ E₁ st hQ => by
          obtain ⟨hin, hit, hl, hpi⟩ := st
          have e1 : (ps.length : Int) - 1 - ((ps.length : Nat) : Int) = -1 := by omega
          rw [e1] at hit
          exact wpAny_pyNext_rev_end hA hit fun h' he' => hQ h' s₁.toks fun b o hb e => he' b o (fun h => hb (by simp [h])) e }
    · refine ⟨Nat.zero_le _, ?_, ⟨o, ho, hc, n, hdat⟩, hp⟩
      have e1 : (ps.length : Int) - 1 - ((0 : Nat) : Int) = (items.size : Int) - 1 := by rw [hp.1]; omega
      rw [e1]
      exact hit
end PySem

namespace Bw
open PySem PySem.Spec PyProof.Rows L2
section
variable {X : Cx}
/-- dict(reversed(e)), e a list of pairs that stand -/
def tDictRev (K : PySem.W.Frag) (te : TE) : TE := fun σ H Q => te σ H fun x H1 => ∃ (a : Addr) (ps : List Addr) (kvs : List (Key × V)), x = .ref a ∧ SqL K H1 a (ps.map V.ref) ∧ Paired (fun p kv => SqT K H1 p [kV kv.1, kv.2]) ps kvs ∧
  ∀ p, H1 p = none → Q (.ref p) (upd H1 p (.dK (mergeK [] kvs.reverse)))
theorem KV.rev {kvs : List (Key × V)} {vs : List (Key × Value)} (r : KV kvs vs) : KV kvs.reverse vs.reverse := by
  unfold KV at *
  induction r with
  | nil => exact .nil
  | cons h t ih =>
    rw [List.reverse_cons, List.reverse_cons]
    have app : ∀ {l₁ l₂ : List (Key × V)} {m₁ m₂ : List (Key × Value)}, Paired (fun (p : Key × V) (q : Key × Value) => p.1 = q.1 ∧ RelV p.2 q.2) l₁ m₁ → Paired (fun (p : Key × V) (q : Key × Value) => p.1 = q.1 ∧ RelV p.2 q.2) l₂ m₂ → Paired (fun (p : Key × V) (q : Key × Value) => p.1 = q.1 ∧ RelV p.2 q.2) (l₁ ++ l₂) (m₁ ++ m₂) := by
      intro l₁ l₂ m₁ m₂ a b
      induction a with
      | nil => exact b
      | cons x _ k => exact .cons x k
    exact app ih (.cons h .nil)
theorem pairs3 {pins : List (Addr × Obj)} {σ : L2.St} {H : Hp} {s : Shared} (I : Inv X pins σ H s) : ∀ {ps : List Addr} {kvs : List (Key × V)}, Paired (fun p kv => SqT X.K H p [kV kv.1, kv.2]) ps kvs →
    ∃ prs : List (Key × Value × Value), KV kvs (prs.map fun t => (t.1, t.2.2)) ∧ prs.length = ps.length ∧ ∀ (j : Nat) (q : Key × Value × Value), prs[j]? = some q → ∃ (b : Addr), ps[j]? = some b ∧ IsTup s.heap b #[q.2.1, q.2.2] ∧ keyIs q.1 q.2.1 = true
  | _, _, .nil => ⟨[], .nil, rfl, fun j q e => by simp at e⟩
  | _, _, .cons (a := p) (b := kv) h t => by
    obtain ⟨prs, r, hl, hp⟩ := pairs3 I t
    obtain ⟨its, rv, ht, _⟩ := I.tuple h
    obtain ⟨u, y, ei, ru, ry⟩ := vals2 rv
    subst ei
    refine ⟨(kv.1, u, y) :: prs, .cons ⟨rfl, ry⟩ r, by rw [List.length_cons, List.length_cons, hl], fun j q e => ?_⟩
    cases j with
    | zero =>
      have e' : (kv.1, u, y) = q := Option.some.inj e
      subst e'
      exact ⟨p, rfl, ht, kV_is (P := X.prog) (w := X.w) ru⟩
    | succ j =>
      obtain ⟨b, e1, e2, e3⟩ := hp j q (by simpa using e)
      exact ⟨b, by simpa using e1, e2, e3⟩
theorem pe_dictRev {e : Expr} {te : TE} {p p2 pos pos2 : Pos} (hc : X.calm = true) (he : PE X e te) (hg : Gl X "dict") (hm : X.mg "dict" = none) (hg2 : Gl X "reversed") (hm2 : X.mg "reversed" = none)
    (hs : starEach [e] X.env = (false, eval e X.env) :: starEach [] X.env := by rfl)
    (hs2 : starEach [.Call (.Name "reversed" p2) [e] [] pos2] X.env = (false, eval (.Call (.Name "reversed" p2) [e] [] pos2) X.env) :: starEach [] X.env := by rfl) :
    PE X (.Call (.Name "dict" p) [.Call (.Name "reversed" p2) [e] [] pos2] [] pos) (tDictRev X.K te) := by
  refine ⟨fun pins s σ H Q I hq => ?_⟩
  refine wpAny_Call_Name_kw (ld_blt I hg hm (u := .type "dict") (by first | rfl | decide +kernel) ?_ (by first | decide +kernel | decide) (by first | decide +kernel | decide))
  refine PyProof.Rows.callWith_type1 ?_ hs2 rfl
  rw [hs2]
  show wpAny _ _ (spliced ((false, eval (.Call (.Name "reversed" p2) [e] [] pos2) X.env) :: backTo pos (starEach [] X.env))) _ _ s
  refine Calls.spliced_cons ?_
  refine wpAny_Call_Name_kw (ld_blt I hg2 hm2 (u := .type "reversed") (by first | rfl | decide +kernel) ?_ (by first | decide +kernel | decide) (by first | decide +kernel | decide))
  refine PyProof.Rows.callWith_type1 ?_ hs rfl
  rw [hs]
  show wpAny _ _ (spliced ((false, eval e X.env) :: backTo pos2 (starEach [] X.env))) _ _ s
  refine Calls.spliced_cons (thn (he.run pins s σ H _ I hq) fun v s1 ⟨x, H1, I1, rx, a, ps, kvs, ex, hl, hp, q⟩ => Calls.spliced_nil ?_)
  subst ex
  obtain rfl : v = Value.ref a := rx
  obtain ⟨its, rv, pl, hz⟩ := I1.list hl
  have ei := refs_at rv
  subst ei
  rw [List.length_map] at hz
  obtain ⟨prs, rel, hlen, hpr⟩ := pairs3 I1 hp
  obtain ⟨o, n, ho, hcl, hd, hdat⟩ := id pl
  refine call_reversed_list pl.isList (Calls.spliced_nil ?_)
  have ne : s1.heap.objs.size ≠ a := Nat.ne_of_gt pl.lt
  have kp : ∀ b u, s1.heap.get? b = some u → (s1.heap.push (revObj a (((ps.map Value.ref).toArray.size : Int) - 1))).get? b = some u := fun b u e => Heap.get?_push_of_some _ e
  have I2 : Inv X pins σ H1 { s1 with heap := s1.heap.push (revObj a (((ps.map Value.ref).toArray.size : Int) - 1)) } := I1.kept (t' := s1.toks) kp
  have pi : PairItems (s1.heap.push (revObj a (((ps.map Value.ref).toArray.size : Int) - 1))) (ps.map Value.ref).toArray (fun j => (ps[j]?).getD 0) (prs.map fun t => t.2) := by
    refine ⟨by simp [hlen], fun j k v e => ?_⟩
    rw [List.getElem?_map] at e
    obtain ⟨t, e1, e2⟩ := Option.map_eq_some_iff.mp e
    obtain ⟨b, f1, f2, f3⟩ := hpr j t e1
    rw [e2] at f2
    refine ⟨by simp [f1], .inl ?_⟩
    show Heap.IsTuple _ ((ps[j]?).getD 0) _
    rw [f1]
    exact Heap.IsTuple.at f2 fun o e => kp _ _ e
  have P := PairArg.rev (prog := X.prog) (w := X.w) s1.heap.objs.size a (ps.map Value.ref).toArray (fun j => (ps[j]?).getD 0) (prs.map fun t => t.2) ne
  have hlp : (prs.map fun t => t.2).length = prs.length := List.length_map _
  refine PySem.call_dict_pairs (knd := mixKind X.prog X.w) (kvs := (prs.map fun t => (t.1, t.2.2)).reverse) P (I1.ok.hd hc) ⟨Heap.get?_push_size _ rfl, ⟨o, n, kp _ _ ho, hcl, hd, hdat⟩, pi⟩ ⟨by simp, fun i key v e => ?_⟩ (by rw [hlp, hlen]; exact hz) fun h' tk hd' hk => ?_
  · obtain ⟨hi, e⟩ := e
    rw [hlp] at hi
    rw [hlp, List.getElem?_map] at e
    obtain ⟨t, e1, e2⟩ := Option.map_eq_some_iff.mp e
    obtain ⟨b, f1, f2, f3⟩ := hpr _ t e1
    have ek : t.2.1 = key := congrArg Prod.fst e2
    have ev : t.2.2 = v := congrArg Prod.snd e2
    refine ⟨t.1, ?_, by rw [← ek]; exact f3⟩
    rw [List.getElem?_reverse (by simpa using hi), List.getElem?_map, List.length_map, e1, ← ev]
    rfl
  · have hm : (({ s1 with heap := s1.heap.push (revObj a (((ps.map Value.ref).toArray.size : Int) - 1)) } : Shared).heap.objs.size == sysModules) = false := beq_eq_false_iff_ne.mpr (Nat.ne_of_gt I2.big)
    have hlk : kvs.length = ps.length := by
      have := (KV.length rel)
      rw [List.length_map, hlen] at this
      exact this
    have hln : (mergeK [] kvs.reverse).length ≤ sizeLine := by
      refine Nat.le_trans (length_mergeK kvs.reverse []) ?_
      rw [List.length_nil, Nat.zero_add, List.length_reverse, hlk]
      exact hz
    have fr : FpOk X pins H1 s1.heap.objs.size := I1.fpOk (Nat.le_refl _) (I1.hok.fresh (Nat.le_refl _))
    obtain ⟨f0, f1, f2, f3, f4, f5⟩ := fr
    have hn2 : H1 (s1.heap.push (revObj a (((ps.map Value.ref).toArray.size : Int) - 1))).objs.size = none := I2.hok.fresh (Nat.le_refl _)
    refine ⟨.ref _, upd H1 (s1.heap.push (revObj a (((ps.map Value.ref).toArray.size : Int) - 1))).objs.size (.dK (mergeK [] kvs.reverse)), ?_, rfl, q _ hn2⟩
    refine I2.turnedNew (t' := tk) (ch := [s1.heap.objs.size]) (fun b o hb e => hk b o hb e) (fun b hb => ?_) (Nat.le_refl _) (show ObjOk X.prog X.w _ _ _ (.dK (mergeK [] kvs.reverse)) from ⟨hln, hm, merged [] (prs.map fun t => (t.1, t.2.2)).reverse, KV.merge (KV.rev rel) .nil, hd'⟩)
    rw [List.mem_singleton.mp hb]
    exact ⟨f0, f1, f2, f3, f4, f5⟩
end
end Bw

/-! #### R3 -/
set_option Elab.async false
set_option linter.all false
set_option maxRecDepth 100000
set_option maxHeartbeats 4000000
/-! rules that the layer lacks, 3 -/
namespace Bw
open PySem PySem.Spec PyProof.Rows L2
section
variable {X : Cx}
/-! ### list(text) -/
def rListS : List V → Hp → VK → Prop := fun xs H Q => ∃ z : Str, xs = [.str z] ∧ z.cps.size ≤ 1000 ∧ ∀ q, H q = none → Q (.ref q) (upd H q (.lst (z.cps.toList.map fun c => V.str ⟨#[c]⟩)))
theorem call_list_text (hc : X.calm = true) : CallR X (.type "list") rListS := by
  intro pins s σ H xs us Q I r h
  obtain ⟨z, rfl, hz, q⟩ := h
  obtain ⟨u, rfl, t, rfl⟩ := vals1 r
  have hsl := sizeLine_eq
  refine call_list_str (I.ok.hd hc) z t (hn := by omega) fun h' tk acc' c' hk hS hacc => ?_
  refine ⟨.ref s.heap.objs.size, upd H s.heap.objs.size (.lst (z.cps.toList.map fun c => V.str ⟨#[c]⟩)), I.laid hk (Nat.le_refl _) (show ObjOk X.prog X.w _ _ _ (.lst _) from ⟨?_, acc'.toList, c', ?_, ?_⟩), rfl, q _ (I.hok.fresh (Nat.le_refl _))⟩
  · simp; omega
  · refine vals_of_at (by simp [hacc.1]) fun j x w h1 h2 => ?_
    obtain ⟨c, u, e1, e2⟩ := hacc.2 j w (by rw [← Array.getElem?_toList]; exact h2)
    rw [List.getElem?_map, Array.getElem?_toList, e1] at h1
    cases h1
    exact ⟨u, e2⟩
  · rw [Array.toArray_toList]; exact hS
/-! ### list(d.values()) -/
def tListVals (td : TE) : TE := fun σ H Q => td σ H fun x H1 => ∃ a kvs, x = V.ref a ∧ H1 a = some (.dK kvs) ∧ ∀ p, H1 p = none → Q (.ref p) (upd H1 p (.lst (kvs.map (·.2))))
variable {o : Expr} {p pos apos mpos : Pos} {td : TE}
theorem pe_listVals (hc : X.calm = true) (hg : Gl X "list") (hm : X.mg "list" = none) (hd : PE X o td) (hbase : attributeBase o "values" X.env (eval o X.env) = eval o X.env := by rfl) (hline : (apos.endLine == mpos.line) = true := by rfl)
    (hs : starEach [.Call (.Attribute o "values" apos) [] [] mpos] X.env = (false, eval (.Call (.Attribute o "values" apos) [] [] mpos) X.env) :: starEach [] X.env := by rfl) :
    PE X (.Call (.Name "list" p) [.Call (.Attribute o "values" apos) [] [] mpos] [] pos) (tListVals td) := by
  refine ⟨fun pins s σ H Q I hq => ?_⟩
  refine wpAny_Call_Name_kw (ld_blt I hg hm (u := .type "list") (by first | rfl | decide +kernel) ?_ (by first | decide +kernel | decide) (by first | decide +kernel | decide))
  refine PyProof.Rows.callWith_type1 ?_ hs rfl
  rw [hs]
  show wpAny _ _ (spliced ((false, eval (.Call (.Attribute o "values" apos) [] [] mpos) X.env) :: backTo pos (starEach [] X.env))) _ _ s
  refine Calls.spliced_cons ?_
  refine wpAny_Call_method (T := "dict") (id := "dict.values") hbase rfl hline F.plainAttrs_dict F.slot_dict_values F.type_dict_values (thn (hd.run pins s σ H _ I hq) fun u s1 ⟨x, H1, I1, rx, d, kvs, ex, hd, q⟩ => ?_)
  subst ex
  obtain rfl : u = Value.ref d := rx
  obtain ⟨hz, hs0, vs, kv, hdo⟩ := I1.hok d _ hd
  obtain ⟨ep, hat⟩ := hdo.dictAt
  have lk : kvs.length = vs.length := Paired.length kv
  have k1 : ∀ b ob, s1.heap.get? b = some ob → (s1.heap.push { cls := .type "dict_values", data := .fields #[.ref d] }).get? b = some ob := fun b ob q => Heap.get?_push_of_some _ q
  have I2 : Inv X pins σ H1 { s1 with heap := s1.heap.push { cls := .type "dict_values", data := .fields #[.ref d] } } := I1.kept (t' := s1.toks) k1
  refine ⟨hdo.typeIs, hdo.mapOf.noDict, ?_⟩
  show wpAny _ _ (callWith mpos (.builtin "dict.values") [.ref d] [] []) _ X.xe s1
  refine method_meetsIn F.slot_dict_values F.entry_dict_values rfl (PySem.evalArgs_none ⟨rfl, hdo.typeIs, F.args_dict_values_1 _, _, meets_dict_values (mixKind X.prog X.w) d hs0, ⟨vs, hdo⟩, ?_⟩)
  refine Calls.spliced_nil ?_
  refine PySem.W.kdl_call (PySem.W.kdl_values (knd := mixKind X.prog X.w) (kvs := vs) (ep := ep)) (I1.ok.hd hc) ⟨⟨_, Heap.get?_push_size _ rfl, rfl, rfl⟩, hat.push _⟩ (by rw [← lk]; exact hz) fun h' tk acc' c' hkeep hS hacc => ?_
  refine ⟨.ref _, _, I2.laid (o := .lst (kvs.map (·.2))) hkeep (Nat.le_refl _) (show ObjOk X.prog X.w _ _ _ (.lst _) from ⟨?_, acc'.toList, c', ?_, ?_⟩), rfl, q _ (I2.hok.fresh (Nat.le_refl _))⟩
  · rw [List.length_map]; exact hz
  · have el : acc'.toList.length = acc'.size := by simp
    refine vals_of_at (by rw [List.length_map, el, hacc.1, lk]) fun j x w h1 h2 => ?_
    obtain ⟨k, e1⟩ := hacc.2 j w (by rw [← Array.getElem?_toList]; exact h2)
    obtain ⟨y, g1, g2⟩ := KV.at' kv e1
    rw [List.getElem?_map, g1] at h1
    cases h1
    exact g2
  · rw [Array.toArray_toList]; exact hS
/-! ### max(d.values()) -/
def tMaxVals (td : TE) : TE := fun σ H Q => td σ H fun x H1 => ∃ a kvs is, x = V.ref a ∧ H1 a = some (.dK kvs) ∧ kvs.map (·.2) = is.map V.int ∧ is ≠ [] ∧ ∀ m, m ∈ is → (∀ j ∈ is, j ≤ m) → Q (.int m) H1
theorem pe_maxVals (hc : X.calm = true) (hg : Gl X "max") (hm : X.mg "max" = none) (hd : PE X o td) (hbase : attributeBase o "values" X.env (eval o X.env) = eval o X.env := by rfl) (hline : (apos.endLine == mpos.line) = true := by rfl)
    (hse : starEach [Expr.Call (.Attribute o "values" apos) [] [] mpos] X.env = [(false, eval (Expr.Call (.Attribute o "values" apos) [] [] mpos) X.env)] := by rfl) :
    PE X (.Call (.Name "max" p) [.Call (.Attribute o "values" apos) [] [] mpos] [] pos) (tMaxVals td) := by
  refine ⟨fun pins s σ H Q I h => ?_⟩
  refine wpAny_Call_Name_kw (ld_blt I hg hm (u := .builtin "max") (by first | rfl | decide +kernel) ?_ (by first | decide +kernel | decide) (by first | decide +kernel | decide))
  rw [hse]
  refine PySem.callWith_builtin1 (wpAny_Call_method0_late hbase hline (thn (hd.run pins s σ H _ I h) fun v s1 ⟨x, H1, I1, r1, a, kvs, is, ex, ha, hv, hne, q⟩ => ?_))
  subst ex
  obtain rfl : v = Value.ref a := r1
  obtain ⟨_, hsys, vs, rel, dof⟩ := dk_of I1.hok ha
  obtain ⟨ep, dat⟩ := dof.dictAt
  have dat' := dat
  obtain ⟨ob, es, ho, ex, hdat, hko, hpr, hnd⟩ := dat'
  refine ⟨"dict", "dict.values", F.plainAttrs_dict, F.slot_dict_values, F.type_dict_values, ⟨ob, ho, ex.1⟩, fun b e => ?_, Calls.callWith_builtin rfl (PySem.evalArgs_none ?_)⟩
  · cases e
    exact ⟨ob, ho, ex.2.1⟩
  refine call_meetsIn F.slot_dict_values ⟨ob, ho, ex.1⟩ F.entry_dict_values (F.args_dict_values_1 _) (meets_dict_values (mixKind X.prog X.w) a hsys) ⟨⟨vs, dof⟩, ?_⟩
  have k1 : ∀ b u, s1.heap.get? b = some u → (s1.heap.push { cls := .type "dict_values", data := .fields #[.ref a] }).get? b = some u := fun b u e => Heap.get?_push_of_some _ e
  have dat1 : (s1.heap.push { cls := .type "dict_values", data := .fields #[.ref a] }).DictAt (mixKind X.prog X.w) a vs ep := dat.keep k1
  have hlv : vs.length = is.length := by
    have e1 := congrArg List.length hv
    rw [List.length_map, List.length_map] at e1
    rw [← e1]
    exact (KV.length rel).symm
  have hlen : 0 < vs.length := by
    rw [hlv]
    exact List.length_pos_iff.mpr hne
  have hval : ∀ (i : Nat) (v : Value), (∃ k, vs[i]? = some (k, v)) → ∃ t, v = Value.int (is.getD i 0) t := fun i v ⟨k, hk⟩ => by
    obtain ⟨x, h1, h2⟩ := KV.at' rel hk
    have e1 : (kvs.map (·.2))[i]? = some x := by rw [List.getElem?_map, h1] <;> rfl
    rw [hv, List.getElem?_map] at e1
    obtain ⟨j, hj, e2⟩ := Option.map_eq_some_iff.mp e1
    subst e2
    obtain ⟨t, e3⟩ := h2
    refine ⟨t, ?_⟩
    rw [e3, List.getD_eq_getElem?_getD, hj] <;> rfl
  refine call_max_walk (wpAny_pyIter_values (v := s1.heap.objs.size) (d := a) ⟨_, Heap.get?_push_size _ rfl, rfl, rfl⟩ dat1 ?_)
  have hlt : a < s1.heap.objs.size := Heap.lt_size ho
  have hsz : (s1.heap.push { cls := .type "dict_values", data := .fields #[.ref a] }).objs.size = s1.heap.objs.size + 1 := Heap.size_push _ _
  refine ⟨_, _, _, _, _, _, _, rfl, Walks.dictValues (knd := mixKind X.prog X.w) (A := X.A.in1) (I.ok.hd hc) (s1.heap.push { cls := .type "dict_values", data := .fields #[.ref a] }).objs.size a (by rw [hsz]; exact Nat.ne_of_lt (Nat.lt_succ_of_lt hlt)) vs ep,
    ⟨⟨_, Heap.get?_push_size _ rfl, rfl, rfl⟩, dat1.keep fun b u e => Heap.get?_push_of_some _ e⟩, fun b hb => ?_, hlen, CmpOf.ints_gt (fun i => is.getD i 0) hval, fun v h' tk hP hk => ?_⟩
  · show b < ((s1.heap.push _).push _).objs.size
    rw [Heap.size_push, Heap.size_push]
    rw [hsz] at hb
    rcases List.mem_cons.mp hb with e | hb
    · rw [e]
      exact Nat.lt_succ_self _
    · have e : b = a := List.mem_singleton.mp hb
      rw [e]
      exact Nat.lt_succ_of_lt (Nat.lt_succ_of_lt hlt)
  · obtain ⟨t, rfl⟩ := hval _ v hP
    obtain ⟨b1, b2⟩ := argBest_gt (fun i => is.getD i 0) (vs.length - 1)
    refine ⟨.int _, H1, I1.kept (t' := tk) fun b u e => hk b u (fun hmem => ?_) (Heap.get?_push_of_some _ (k1 b u e)), ⟨t, rfl⟩, q _ ?_ fun j hj => ?_⟩
    · have e1 : b = (s1.heap.push { cls := .type "dict_values", data := .fields #[.ref a] }).objs.size := List.mem_singleton.mp hmem
      have e2 := Heap.lt_size e
      rw [hsz] at e1
      rw [e1] at e2
      exact absurd e2 (Nat.not_lt.mpr (Nat.le_succ _))
    · have hb : argBest (fun i j => decide (is.getD i 0 > is.getD j 0)) (vs.length - 1) < is.length := by omega
      rw [List.getD_eq_getElem?_getD, List.getElem?_eq_getElem hb]
      exact List.getElem_mem hb
    · obtain ⟨i, hi, e⟩ := List.mem_iff_getElem.mp hj
      have e2 : is.getD i 0 = j := by rw [List.getD_eq_getElem?_getD, List.getElem?_eq_getElem hi, ← e] <;> rfl
      rw [← e2]
      exact b2 i (by omega)
/-! ### y = {k: v for ..} -/
theorem swd_true {kx vx : Expr} {gs : List Comprehension} {scope : Scope} {pos py : Pos} {y : Str} {l : Nat} {env : Env} (hk : env.scope.kind = .function) (hy : env.scope.names.lookup y = some .local) (hl : (py.line == pos.line) = true)
    (ha : (scope.names.any fun (n, k) => n == y && (k == .local || k == .cell)) = false) : swapsWith (.DictComp kx vx gs scope pos) (some (.Name y py)) l env = pure true := by
  have ky : env.kindOf y = some .local := hy
  have hb : env.blockKind = .function := by unfold Env.blockKind; rw [hk]; rfl
  unfold swapsWith
  simp only [hb, ky, ha, Expr.pos, hl]
  rfl
theorem ps_setDc {i : Nat} {y : Str} {py : Pos} {kx vx tg iter : Expr} {ifs : List Expr} {scope : Scope} {own : List (Str × Nat)} {pos spos : Pos} {wi : TI} {g : TG} {tt : TT} {tk tv : TE} (hc : X.calm = true) (hN : X.N.Nodup) (hy : X.N[i]? = some y) (hyl : X.env.scope.names.lookup y = some .local)
    (hsw : swapsWith (.DictComp kx vx [⟨tg, iter, ifs, 0⟩] scope pos) (some (.Name y py)) spos.line X.env = pure true) (hi : PI X tg iter wi) (ok : BlkOk X.N X.env.scope scope own)
    (hg : ∀ (s : Shared) (H : Hp) (C : Addr) (cl : List (Str × Addr)) (fp : List Addr), PG (X.blk s H scope (compEnvC scope cl C X.env) fp) tg g) (ht : ∀ (s : Shared) (H : Hp) (C : Addr) (cl : List (Str × Addr)) (fp : List Addr), PTs (X.blk s H scope (compEnvC scope cl C X.env) fp) ifs tt)
    (hk : ∀ (s : Shared) (H : Hp) (C : Addr) (cl : List (Str × Addr)) (fp : List Addr), PE (X.blk s H scope (compEnvC scope cl C X.env) fp) kx tk)
    (he : ∀ (s : Shared) (H : Hp) (C : Addr) (cl : List (Str × Addr)) (fp : List Addr), PE (X.blk s H scope (compEnvC scope cl C X.env) fp) vx tv) (hs : ∀ x, foldedSetIterable iter X.env x = pure x := by intro _; rfl) :
    PS X (.Assign [.Name y py] (.DictComp kx vx [⟨tg, iter, ifs, 0⟩] scope pos) spos) (tAsg (tDc wi g tt tk tv (own.map (·.2))) (gName i)) := by
  refine ⟨fun pins s σ H D I h => ?_⟩
  rw [exec_Assign_Name_used _ _ _ _ hsw]
  refine wpAny_bind (wpAny_standAt (wpAny_bind ?_))
  show wpAny _ X.A (do let _ ← comprehension (.DictComp kx vx [⟨tg, iter, ifs, 0⟩] scope pos) scope X.env (firstIterPos [⟨tg, iter, ifs, 0⟩] pos) newDict false (eval iter X.env) (some (assign (.Name y py) X.env))) _ _ s
  have h : tDc wi g tt tk tv (own.map (·.2)) σ H (fun x H1 => gName i x σ H1 D.nx) := h
  refine wpAny_bind (thn (dc_core (Qf := fun _ s' => SP X pins D .next s') hc hN I hi ok hg ht hk he hs h fun L C s' m H' I' q hn f => ?_) fun _ s' hq => wpAny_pure (wpAny_pure hq))
  show wpAny _ _ (assign (.Name y py) X.env (.ref L)) _ _ _
  refine wpAny_assign_Name (store_ok2 (v := V.ref L) I' hN hy (.inl hyl) rfl (fun s2 I2 ⟨a, sb, ha⟩ => ?_) (.inr hyl))
  obtain ⟨f0, f1, f2, f3, f4, f5⟩ := f
  have haC : C ≠ a := by
    rcases ha with z | z
    · rw [z]; exact f1
    · exact fun e => f4 y a z e.symm
  refine ⟨m, hn.sameBut sb haC, fun h3 sb3 => ?_⟩
  exact ⟨_, H', I2.turned (t' := s2.toks) (fun b o hb e => (sb3.2 b hb).trans e) f0 f1 f3 f4 f5, q⟩
end
end Bw

/-! #### R4 -/
set_option Elab.async false
set_option linter.all false
set_option maxRecDepth 100000
set_option maxHeartbeats 4000000
/-! rules that the layer lacks, 4: {**d, k: v} -/
namespace Bw
open PySem PySem.Spec PyProof.Rows L2
section
variable {prog : Program} {w : World} {K : Type} [DecidableEq K] {knd : KeyKind prog w K} {A : Around} {E : Value → Shared → Prop} {s : Shared}
theorem put_one {d : Addr} {kvs : List (K × Value)} {k : K} {key v : Value} {Q : Unit → Shared → Prop} (hkey : knd.is k key = true) (hm : s.heap.DictOf knd d kvs)
    (hQ : ∀ h', h'.DictOf knd d (stored kvs k v) → Heap.SameBut d s.heap h' → Q () { s with heap := h' })
    (hsz : kvs.length ≤ sizeLine) : wpAny (model prog w) A (dictPut d (knd.hash k) key v) Q E s := by
  obtain ⟨o, es, ep, ho, hc, hd, hk, hp, hn⟩ := hm
  have hes : es.size ≤ sizeLine := by
    have e1 := hp.length
    have e2 : es.toList.length = es.size := by simp
    omega
  unfold dictPut
  refine wpAny_bind (wpAny_dictFind_of hkey ho hd hk ?_)
  have hidx : (es.findIdx? fun e => knd.is k e.key) = kvs.findIdx? fun kv => decide (kv.1 = k) := by
    rw [← hp.findIdx k]; obtain ⟨l⟩ := es; simp
  cases hi : es.findIdx? fun e => knd.is k e.key with
  | some i =>
    refine wpAny_updateDict ho hd (hQ _ ⟨_, _, ep, Heap.get?_update_self _ ho (Obj.isFreed_of_dict (Obj.data_mapDict hd _)),
      hc.mapDict _, Obj.data_mapDict hd _, hk.modify _ _, ?_, ?_⟩ (Heap.SameBut.update ..))
    · rw [stored, if_pos (any_of_findIdx_some (hidx ▸ hi))]
      have hl : (es.toList.findIdx? fun e => knd.is k e.key) = some i := by rw [← hi]; obtain ⟨l⟩ := es; simp
      have := hp.modify hn hl v
      obtain ⟨l⟩ := es
      simpa using this
    · rw [stored, if_pos (any_of_findIdx_some (hidx ▸ hi)), keys_map_store]; exact hn
  | none =>
    have hnot : k ∉ kvs.map (·.1) := not_mem_of_findIdx_none (hidx ▸ hi)
    have hany : ¬ (kvs.any fun kv => decide (kv.1 = k)) = true := by
      rw [List.any_eq_true]; rintro ⟨kv, hkv, he⟩
      exact hnot (List.mem_map.mpr ⟨kv, hkv, of_decide_eq_true he⟩)
    refine wpAny_updateDictKeys (hz := hes) ho hd (hQ _ ⟨_, _, ep + 1, Heap.get?_update_self _ ho (Obj.isFreed_of_dict (Obj.data_mapDictKeys hd _)),
      hc.mapDictKeys _, Obj.data_mapDictKeys hd _, hk.push hkey _, ?_, ?_⟩ (Heap.SameBut.update ..))
    · rw [stored, if_neg hany]
      have := hp.append hkey (knd.hash k) v
      obtain ⟨l⟩ := es
      simpa using this
    · rw [stored, if_neg hany, List.map_append, List.nodup_append]
      refine ⟨hn, by simp, ?_⟩
      intro a ha b hb
      simp only [List.map_cons, List.map_nil, List.mem_singleton] at hb
      subst hb
      exact fun e => hnot (e ▸ ha)
theorem stored_le (kvs : List (K × Value)) (k : K) (v : Value) : (stored kvs k v).length ≤ kvs.length + 1 := by
  unfold stored
  split
  · rw [List.length_map]; omega
  · simp
theorem merged_le : ∀ (more kvs : List (K × Value)), (merged kvs more).length ≤ kvs.length + more.length
  | [], kvs => Nat.le_refl _
  | p :: r, kvs => by
    have h1 := merged_le r (stored kvs p.1 p.2)
    have h2 := stored_le kvs p.1 p.2
    show (merged (stored kvs p.1 p.2) r).length ≤ _
    rw [List.length_cons]
    omega
/-- one plain dict poured into another -/
theorem pour {D a : Addr} {kd ka : List (K × Value)} {Q : Unit → Shared → Prop} (hne : D ≠ a) (hs : (a == sysModules) = false) (hr : ∀ (k : K) (b : Addr), knd.is k (.ref b) = false)
    (dD : s.heap.DictOf knd D kd) (da : s.heap.DictOf knd a ka) (hsz : kd.length + ka.length ≤ sizeLine)
    (hQ : ∀ h', h'.DictOf knd D (merged kd ka) → Heap.SameBut D s.heap h' → Q () { s with heap := h' }) :
    wpAny (model prog w) A (mergeMapping D (.ref a) false) Q E s := by
  have da0 := da
  obtain ⟨oa, es, ep, hoa, hca, hda, hka, hpa, hna⟩ := da
  have hT : s.TypeIs (.ref a) "dict" := ⟨oa, hoa, hca.1⟩
  have hla : ka.length = es.size := by rw [← hpa.length]; exact Array.length_toList
  unfold mergeMapping
  show wpAny _ _ (isInstance (.ref a) (.type "dict") >>= _) _ _ s
  refine wpAny_bind (wpAny_isInstance (T := "dict") hT PySem.F.sub_dict_dict ?_)
  rw [if_pos rfl]
  show wpAny _ _ (specialOf (.ref a) "__iter__" >>= _) _ _ s
  refine wpAny_bind (wpAny_specialOf hT PySem.F.slot_dict_iter.lookup ?_)
  show wpAny _ _ (do
    if (a == sysModules) = true then unsupported "sys.modules:all-start-up-values-wanted"
    if (← dictEntries D).isEmpty then
      let es ← dictEntries a
      for e in es do
        if let .ref _ := e.key then
          if (← specialOf e.key "__eq__") != some (.builtin "object.__eq__") then
            if (es.filter (·.hash == e.hash)).size > 1 then unsupported "dict.merge-into-an-empty-dict:keys-of-equal-hash"
    let size := (← dictEntries a).size
    let epoch ← dictEpoch a
    for i in List.range size do
      let some e := (← dictEntries a)[i]? | unsupported "dict.changed-during-merge"
      holding [e.key, e.val] do
        if false = true then
          if (← dictFind D e.key e.hash).isSome then rule "dict.merge.duplicate-key"; raiseNew (← newExc (.type "KeyError") [e.key])
        dictPut D e.hash e.key e.val
      if (← dictEpoch a) != epoch then unsupported "dict.changed-during-merge") _ _ s
  rw [hs]
  have loop : ∀ s0 : Shared, s0 = s → wpAny (model prog w) A (do
    let size := (← dictEntries a).size
    let epoch ← dictEpoch a
    for i in List.range size do
      let some e := (← dictEntries a)[i]? | unsupported "dict.changed-during-merge"
      holding [e.key, e.val] do
        if false = true then
          if (← dictFind D e.key e.hash).isSome then rule "dict.merge.duplicate-key"; raiseNew (← newExc (.type "KeyError") [e.key])
        dictPut D e.hash e.key e.val
      if (← dictEpoch a) != epoch then unsupported "dict.changed-during-merge") Q E s0 := by
    intro s0 e0
    subst e0
    refine wpAny_bind (wpAny_dictEntries hoa hda ?_)
    refine wpAny_bind (wpAny_dictEpoch hoa hda ?_)
    refine wpAny_bind (wpAny_forIn_list _ (fun rest _ s' => ∃ i h', rest = (List.range es.size).drop i ∧ i ≤ es.size ∧ s' = { s0 with heap := h' } ∧ h'.DictOf knd D (merged kd (ka.take i)) ∧ Heap.SameBut D s0.heap h') _ ?turn ?fin _ _ ⟨0, s0.heap, rfl, Nat.zero_le _, rfl, dD, Heap.SameBut.refl _ _⟩)
    case turn =>
      rintro i rest _ s' ⟨j, h', hr, hj, rfl, dj, sb⟩
      have hlt : j < es.size := by
        rcases Nat.lt_or_ge j es.size with h | h
        · exact h
        · rw [List.drop_of_length_le (by simpa using h)] at hr; cases hr
      have hlen : j < (List.range es.size).length := by simpa using hlt
      rw [List.drop_eq_getElem_cons hlen] at hr
      injection hr with h1 h2
      have hi : i = j := by simpa using h1
      subst hi
      have hoa' : h'.get? a = some oa := (sb.2 a (Ne.symm hne)).trans hoa
      refine wpAny_bind (wpAny_dictEntries (s := { s0 with heap := h' }) hoa' hda ?_)
      rw [Array.getElem?_eq_getElem hlt]
      have hlt' : i < ka.length := by rw [hla]; exact hlt
      obtain ⟨k, v, hkv⟩ : ∃ k v, ka[i] = (k, v) := ⟨_, _, rfl⟩
      obtain ⟨hkey, hval⟩ := hpa.get? (i := i) (e := es[i]) (k := k) (v := v) (by rw [Array.getElem?_toList]; exact Array.getElem?_eq_getElem hlt) (by rw [List.getElem?_eq_getElem hlt', hkv])
      obtain ⟨k', hk', hh⟩ := hka es[i] (Array.getElem_mem hlt)
      have ekk : k' = k := knd.inj _ _ _ hk' hkey
      rw [ekk] at hh
      have hml := merged_le (ka.take i) kd
      have htl : (ka.take i).length ≤ ka.length := by rw [List.length_take]; omega
      refine wpAny_bind (wpAny_holding ?_)
      rw [if_neg (by decide)]
      show wpAny _ _ (dictPut D es[i].hash es[i].key es[i].val) _ _ _
      rw [hh]
      refine put_one (s := { s0 with heap := h' }) hkey dj (fun h'' d'' sb'' => ?_) (by omega)
      have hoa'' : h''.get? a = some oa := (sb''.2 a (Ne.symm hne)).trans hoa'
      refine wpAny_bind (wpAny_dictEpoch (s := { s0 with heap := h'' }) hoa'' hda ?_)
      rw [if_neg (by simp)]
      refine wpAny_pure ⟨i + 1, h'', h2, hlt, rfl, ?_, ?_⟩
      · rw [merged_take_succ kd ka i (k, v) (by rw [List.getElem?_eq_getElem hlt', hkv]), ← hval]
        exact d''
      · exact ⟨sb''.1.trans sb.1, fun b hb => (sb''.2 b hb).trans (sb.2 b hb)⟩
    case fin =>
      rintro _ s' ⟨j, h', hr, hj, rfl, dj, sb⟩
      have hjn : es.size ≤ j := by
        have := List.drop_eq_nil_iff.mp hr.symm
        simpa using this
      have ej : j = ka.length := by omega
      rw [ej, List.take_length] at dj
      exact wpAny_pure (hQ h' dj sb)
  obtain ⟨oD, esD, epD, hoD, _, hdD, _⟩ := dD
  rw [if_neg Bool.false_ne_true]
  refine wpAny_bind (wpAny_dictEntries hoD hdD ?_)
  dsimp only
  by_cases c : esD.isEmpty = true
  · rw [if_pos c]
    refine wpAny_bind (wpAny_dictEntries hoa hda ?_)
    refine wpAny_bind (wpAny_forIn_array' _ (fun rest _ s' => s' = s ∧ ∀ e ∈ rest, e ∈ es.toList) _ ?_ ?_ _ _ ⟨rfl, fun _ h => h⟩)
    · rintro e rest _ s' ⟨rfl, hm⟩
      obtain ⟨k, hk, _⟩ := hka e (Array.mem_toList_iff.mp (hm e List.mem_cons_self))
      have nr : ∀ b, e.key ≠ .ref b := fun b z => by
        rw [z, hr k b] at hk
        cases hk
      have rest' : ∀ e ∈ rest, e ∈ es.toList := fun e he => hm e (List.mem_cons_of_mem _ he)
      split
      · rename_i b hb
        exact absurd hb (nr b)
      · exact wpAny_pure ⟨rfl, rest'⟩
    · rintro _ s' ⟨rfl, _⟩
      exact loop _ rfl
  · rw [if_neg c]
    exact loop _ rfl
end
/-! ### {**d, k: v} -/
section
variable {X : Cx}
def tStarOne (td tk tv : TE) : TE := fun σ H Q => ∀ D, H D = none → td σ (upd H D (.dK [])) fun x H1 => ∃ a kvs, x = .ref a ∧ a ≠ D ∧ H1 a = some (.dK kvs) ∧ H1 D = some (.dK []) ∧ kvs.length ≤ 100 ∧
  ∀ S, (upd H1 D (.dK kvs)) S = none → tk σ (upd (upd H1 D (.dK kvs)) S (.dK [])) fun y H2 => tv σ H2 fun z H3 => ∃ k, y = kV k ∧ H3 S = some (.dK []) ∧ H3 D = some (.dK kvs) ∧ Q (.ref D) (upd (upd H3 S (.dK [(k, z)])) D (.dK (putK kvs k z)))
theorem mix_ref {P : Program} {w : World} (k : Key) (b : Addr) : (mixKind P w).is k (.ref b) = false := by
  cases k <;> rfl
theorem mergeK_self : ∀ {kvs acc : List (Key × V)}, ((acc ++ kvs).map (·.1)).Nodup → mergeK acc kvs = acc ++ kvs
  | [], acc, _ => by simp [mergeK]
  | p :: r, acc, h => by
    have e : putK acc p.1 p.2 = acc ++ [p] := by
      have : ¬ (acc.any fun kv => decide (kv.1 = p.1)) = true := by
        rw [List.any_eq_true]
        rintro ⟨q, hq, e⟩
        rw [List.map_append, List.nodup_append] at h
        exact h.2.2 q.1 (List.mem_map.mpr ⟨q, hq, rfl⟩) p.1 (by simp) (of_decide_eq_true e)
      unfold putK
      rw [if_neg this]
    show mergeK (putK acc p.1 p.2) r = _
    rw [e, mergeK_self (by simpa using h)]
    simp
end
end Bw

/-! #### R5 -/
set_option Elab.async false
set_option linter.all false
set_option maxRecDepth 100000
set_option maxHeartbeats 4000000
namespace Bw
open PySem PySem.Spec PyProof.Rows L2
section
variable {X : Cx}
theorem dict_nodup {I : List (Addr × Obj)} {σ : L2.St} {H : Hp} {s : Shared} {a : Addr} {kvs : List (Key × V)} (J : Inv X I σ H s) (h : H a = some (.dK kvs)) : (kvs.map (·.1)).Nodup := by
  obtain ⟨_, _, vs, r, o, es, ep, _, _, _, _, _, hn⟩ := J.hok a _ h
  rw [KV.keys r]
  exact hn
theorem pe_starOne {k v z : Expr} {td tk tv : TE} {pos : Pos} (hv : PE X v td) (hk : PE X k tk) (hz : PE X z tv)
    (hs : (evalEachOpt [none, some k] X.env).zip ((evalEach [v, z] X.env).map fun v => do let x ← v; standAt pos; pure x) = [(none, do let x ← eval v X.env; standAt pos; pure x), (some (eval k X.env), do let x ← eval z X.env; standAt pos; pure x)] := by rfl) :
    PE X (.Dict [none, some k] [v, z] pos) (tStarOne td tk tv) := by
  refine ⟨fun pins s σ H Q I h => ?_⟩
  rw [arm_eval_Dict, hs]
  refine wpAny_bind (wpAny_standAt ?_)
  unfold dictDisplay
  simp only [List.forIn_cons, List.forIn_nil, List.isEmpty_nil, if_true, List.nil_append, List.length_cons, List.length_nil, pure_bind, bind_assoc]
  have hn := I.hok.fresh (Nat.le_refl s.heap.objs.size)
  have I1 := I.laid (a := s.heap.objs.size) (o := .dK []) (h' := s.heap.push { cls := .type "dict", data := .dict #[] }) (t' := s.toks) (fun _ _ q => Heap.get?_push_of_some _ q) (Nat.le_refl _) (dk_empty s.heap I.big)
  refine wpAny_bind (wpAny_alloc ?_)
  generalize hD : s.heap.objs.size = D at hn I1 ⊢
  refine wpAny_bind (wpAny_holding (wpAny_bind (thn (hv.run pins _ σ _ _ I1 (h D hn)) fun u s1 ⟨x, H1, I2, rx, a, kvs, ex, ne, ha, hD1, hz1, q⟩ => wpAny_bind (wpAny_standAt (wpAny_pure ?_)))))
  subst ex
  obtain rfl : u = Value.ref a := rx
  obtain ⟨z1, hd1, vs1, r1, dd1⟩ := dk_of I2.hok ha
  obtain ⟨z2, hd2, vs2, r2, dd2⟩ := dk_of I2.hok hD1
  cases r2
  have hl1 : kvs.length = vs1.length := Paired.length r1
  have hsl := sizeLine_eq
  have nd := dict_nodup I2 ha
  refine wpAny_bind (wpAny_onRaise (wpAny_tryCatch (wpAny_onRaise (wpAny_holding (pour (knd := mixKind X.prog X.w) (Ne.symm ne) hd1 mix_ref dd2 dd1 (by simp only [List.length_nil]; omega) fun h3 d3 sb3 => ?_)))))
  have em : mergeK [] kvs = kvs := by
    have := mergeK_self (kvs := kvs) (acc := []) (by simpa using nd)
    simpa using this
  have he3 : ∃ q, h3.get? D = some q := let ⟨q, _, _, hq, _⟩ := d3; ⟨q, hq⟩
  have I3 : Inv X pins σ (upd H1 D (.dK kvs)) { s1 with heap := h3 } := by
    have J := d_write (t' := s1.toks) I2 (by rw [hD1]; exact True.intro) sb3 he3 (dk_new (kvs := mergeK [] kvs) (by rw [em]; exact z1) hd2 (KV.merge r1 .nil) d3)
    rw [em] at J
    exact J
  simp only [show ((0 + 1 == 17) = true) = False from by simp, if_false, pure_bind, List.isEmpty_cons, Bool.false_eq_true]
  -- the second dict
  have hnS := I3.hok.fresh (Nat.le_refl h3.objs.size)
  have I4 := I3.laid (a := h3.objs.size) (o := .dK []) (h' := h3.push { cls := .type "dict", data := .dict #[] }) (t' := s1.toks) (fun _ _ q => Heap.get?_push_of_some _ q) (Nat.le_refl _) (dk_empty h3 I3.big)
  generalize hS : h3.objs.size = S at hnS I4
  refine wpAny_bind (wpAny_bind (wpAny_holding (wpAny_subDict (knd := mixKind X.prog X.w) (by show 1 ≤ 15; decide) ?_)))
  refine evalPairs_cons ?_
  show wpAny _ _ (eval k X.env) _ _ { s1 with heap := h3.push { cls := .type "dict", data := .dict #[] } }
  refine thn (hk.run pins _ σ _ _ I4 (q S hnS)) fun yk s5 ⟨y, H5, I5, r5, q5⟩ => ?_
  refine wpAny_bind (thn (hz.run pins _ σ _ _ I5 q5) fun yv s6 ⟨zz, H6, I6, r6, kk, ek, hS6, hD6, q6⟩ => wpAny_bind (wpAny_standAt (wpAny_pure (evalPairs_nil ?_))))
  subst ek
  obtain ⟨z6, hd6, vs6, r6', dd6⟩ := dk_of I6.hok hS6
  cases r6'
  show ∃ kvs_1, _ ∧ Heap.DictOf _ _ h3.objs.size _ ∧ _
  rw [hS]
  refine ⟨[(kk, yv)], ⟨kV_is r5, rfl, trivial⟩, dd6, fun h7 d7 sb7 => ?_⟩
  have rk : KV [(kk, zz)] [(kk, yv)] := .cons ⟨rfl, r6⟩ .nil
  have he7 : ∃ q, h7.get? S = some q := let ⟨q, _, _, hq, _⟩ := d7; ⟨q, hq⟩
  have em2 : merged [] [(kk, yv)] = [(kk, yv)] := rfl
  have I7 := d_write (t' := s6.toks + 1) (ob := .dK [(kk, zz)]) I6 (by rw [hS6]; exact True.intro) sb7 he7 (dk_new (by simp only [List.length_cons, List.length_nil]; omega) hd6 rk d7)
  have neDS : D ≠ S := fun e => by
    rw [e, upd_same] at hnS
    cases hnS
  have hD7 : (upd H6 S (.dK [(kk, zz)])) D = some (.dK kvs) := by rw [upd_ne neDS]; exact hD6
  obtain ⟨z8, hd8, vs8, r8, dd8⟩ := dk_of I7.hok hD7
  have hl8 : kvs.length = vs8.length := Paired.length r8
  refine wpAny_bind (wpAny_onRaise (wpAny_holding (pour (knd := mixKind X.prog X.w) neDS hd6 mix_ref dd8 d7 (by rw [em2]; simp only [List.length_cons, List.length_nil]; omega) fun h9 d9 sb9 => wpAny_pure ?_)))
  rw [em2] at d9
  have he9 : ∃ q, h9.get? D = some q := let ⟨q, _, _, hq, _⟩ := d9; ⟨q, hq⟩
  have I9 := d_write (t' := s6.toks + 1) (ob := .dK (putK kvs kk zz)) I7 (by rw [hD7]; exact True.intro) sb9 he9 (dk_new (by have := length_putK kvs kk zz; omega) hd8 (KV.merge rk r8) d9)
  exact wpAny_pure ⟨.ref D, _, I9, rfl, q6⟩
end
end Bw

/-! #### R6 -/
set_option Elab.async false
set_option linter.all false
set_option maxRecDepth 100000
set_option maxHeartbeats 4000000
/-! rules that the layer lacks, 6: for k, v in d.items(), d a dict with tuple keys -/
namespace Bw
open PySem PySem.Spec PyProof.Rows L2
section
variable {X : Cx} {pins : List (Addr × Obj)} {σ : L2.St} {H : Hp} {s : Shared} {d : Addr} {o : Obj}
theorem frzTv {kvs : List (List Key × V)} (I : Inv X pins σ H s) (h : H d = some (.frz o (.dT kvs))) :
    (d == sysModules) = false ∧ s.heap.get? d = some o ∧ o.ExactDict ∧ ∃ (es : Array DictEntry) (ep : Nat), o.data = .dict es ep ∧ es.size = kvs.length ∧
      ∀ (i : Nat) (k : List Key) (v : V), kvs[i]? = some (k, v) → ∃ (en : DictEntry) (q : Addr), es[i]? = some en ∧ en.key = .ref q ∧ H q = some (.tup (k.map kV)) ∧ RelV v en.val := by
  obtain ⟨hd, z, hs, xs, pr, o', es, ep, ho, hx, hdt, he, _⟩ := I.hok d _ h
  rw [hd] at ho
  cases ho
  refine ⟨hs, hd, hx, es, ep, hdt, ?_, fun i k v e => ?_⟩
  · have l1 : es.size = xs.length := size_of_entries he
    have l2 : kvs.length = xs.length := Paired.length pr
    omega
  · obtain ⟨b, hb, e1, e2, e3⟩ := paired_get pr e
    have q := entry_at he i
    rw [hb] at q
    exact ⟨_, b.2.1, q, rfl, e2, e3⟩
end
def IitT (d : Addr) (o : Obj) (kvs : List (List Key × V)) : It :=
  ⟨fun i H => H d = some (.frz o (.dT kvs)) ∧ i < kvs.length,
    fun i H x H' => ∃ (T q : Addr) (k : List Key) (v : V), kvs[i]? = some (k, v) ∧ x = .ref T ∧ H T = none ∧ H q = some (.tup (k.map kV)) ∧ H' = upd H T (.tup [.ref q, v]),
    fun i H => H d = some (.frz o (.dT kvs)) ∧ kvs.length = i⟩
theorem turn_itemsT {P : Program} {w : World} {K : PySem.W.Frag} {d : Addr} {o : Obj} {es : Array DictEntry} {ep : Nat} {kvs : List (List Key × V)} {elts : List Expr} {kk : Nat} {tpos : Pos} (it : Addr) (hod : o.data = .dict es ep) (hsz0 : es.size = kvs.length) :
    Turn P w K (.Tuple elts kk tpos) (IitT d o kvs) [it] it (fun i h => ∃ ok ov, IsItemIter h it d i es.size ep ok ov) where
  mem := by simp
  obj := fun i h st b hb => by
    have e : b = it := by simpa using hb
    subst e
    obtain ⟨ok, ov, e⟩ := st
    exact ⟨_, e, fun v z => nomatch z⟩
  keep := fun i h h' st k => let ⟨ok, ov, e⟩ := st; ⟨ok, ov, k it (by simp) _ e⟩
  item := by
    intro X hP hw hK hc i pins s σ H E I hf st hg
    subst hP hw hK
    obtain ⟨hd, hi⟩ := hg
    obtain ⟨hs, hgd, hx, es', ep', hdt, hsz, ent⟩ := frzTv I hd
    obtain ⟨rfl, rfl⟩ := dict_ep hod hdt
    obtain ⟨⟨k, v⟩, hkv⟩ : ∃ p, kvs[i]? = some p := ⟨kvs[i], List.getElem?_eq_getElem hi⟩
    obtain ⟨en, q, hen, hkey, hq, rv⟩ := ent i k v hkv
    obtain ⟨ok, ov, he⟩ := st
    have hlt : it < s.heap.objs.size := Heap.lt_size he
    have his : i < es'.size := by omega
    have een : es'[i] = en := by
      rw [Array.getElem?_eq_getElem his] at hen
      exact Option.some.inj hen
    refine DT.nextI he ⟨o, hgd, hx, hdt⟩ his fun h' ho hT hz hk => ?_
    rw [een, hkey] at hT
    refine ⟨_, rfl, wpAny_letOwnedTupleGo_items (s := { s with heap := h' }) ho fun h'' he' sb => ?_⟩
    have hT2 : h''.get? s.heap.objs.size = some { cls := .type "tuple", data := .seq #[.ref q, en.val] } := (sb.2 _ (Nat.ne_of_gt hlt)).trans hT
    have new : ObjOk X.prog X.w (upd H s.heap.objs.size (.tup [.ref q, v])) h'' s.heap.objs.size (.tup [.ref q, v]) :=
      ⟨by show 2 ≤ sizeLine; decide, [.ref q, en.val], .cons rfl (.cons rv .nil), ⟨_, hT2, rfl, _, rfl⟩⟩
    have I1 : Inv X pins σ (upd H s.heap.objs.size (.tup [.ref q, v])) { s with heap := h'' } :=
      I.turnedNew (t' := s.toks) (ch := [it]) (fun b ob hb e => (sb.2 b (by simpa using hb)).trans (hk b ob (by simpa using hb) e)) hf (Nat.le_refl _) new
    refine ⟨.ref s.heap.objs.size, _, I1, rfl, ⟨_, q, k, v, hkv, rfl, I.hok.fresh (Nat.le_refl _), hq, rfl⟩, ⟨_, _, he'⟩, fun b hb => ?_⟩
    have e : b = it := by simpa using hb
    rw [e, upd_ne (Nat.ne_of_lt hlt)]
    exact (hf it (by simp)).1
  done := by
    intro X hP hw hK hc i pins s σ H E I hf st hg
    subst hP hw hK
    obtain ⟨hd, hi⟩ := hg
    obtain ⟨f0, f1, f2, f3, f4, f5⟩ := hf it (by simp)
    obtain ⟨hs, hgd, hx, es', ep', hdt, hsz, ent⟩ := frzTv I hd
    obtain ⟨rfl, rfl⟩ := dict_ep hod hdt
    obtain ⟨ok, ov, he⟩ := st
    exact DT.endI (I.ok.hd hc) he ⟨o, hgd, hx, hdt⟩ (by omega) fun h' eb => ⟨rfl, I.turned (t' := s.toks) (fun b ob hb e => eb b ob hb e) f0 f1 f3 f4 f5⟩
  self := fun A i s Q E st h => let ⟨_, _, e⟩ := st; PySem.W.kcp_self e h
def iItemsT (td : TE) : TI := fun σ H R => td σ H fun x H1 => ∃ d o kvs, x = .ref d ∧ H1 d = some (.frz o (.dT kvs)) ∧ R (IitT d o kvs) H1
theorem pi_itemsT {X : Cx} {e : Expr} {td : TE} {apos cpos tpos : Pos} {elts : List Expr} {kk : Nat} (he : PE X e td) (hbase : attributeBase e "items" X.env (eval e X.env) = eval e X.env := by rfl) (hline : (apos.endLine == cpos.line) = true := by rfl) :
    PI X (.Tuple elts kk tpos) (.Call (.Attribute e "items" apos) [] [] cpos) (iItemsT td) := by
  refine ⟨fun pins s σ H R I h => ?_⟩
  refine wpAny_Call_method (T := "dict") (id := "dict.items") hbase rfl hline F.plainAttrs_dict F.slot_dict_items F.type_dict_items (thn (he.run pins s σ H _ I h) fun u s1 ⟨x, H1, I1, rx, d, o, kvs, ex, hd, q⟩ => ?_)
  subst ex
  obtain rfl : u = Value.ref d := rx
  obtain ⟨hs, hgd, hx, es, ep, hdt, hsz, ent⟩ := frzTv I1 hd
  have raw : DT.Raw s1.heap d es ep := ⟨o, hgd, hx, hdt⟩
  refine ⟨raw.typeIs, fun b q => ?_, ?_⟩
  · cases q
    exact ⟨o, hgd, hx.2.1⟩
  have I2 : Inv X pins σ H1 { s1 with heap := s1.heap.push { cls := .type "dict_items", data := .fields #[.ref d] } } := I1.kept (t' := s1.toks) fun b ob q => Heap.get?_push_of_some _ q
  have fin : wpAny (model X.prog X.w) X.A (pyIter (.ref s1.heap.objs.size)) (PIE X pins σ (.Tuple elts kk tpos) R) X.xe { s1 with heap := s1.heap.push { cls := .type "dict_items", data := .fields #[.ref d] } } := by
    refine DT.iterI (d := d) (es := es) (ep := ep) ⟨_, Heap.get?_push_size _ rfl, rfl, rfl⟩ (raw.push _) (pi_one (tk := s1.toks) I2 _ (turn_itemsT _ hdt hsz) ⟨.none, .none, ?_⟩ q)
    exact Heap.get?_push_size _ rfl
  show wpAny _ _ (callWith cpos (.builtin "dict.items") [.ref d] [] []) _ X.xe s1
  exact method_meetsIn F.slot_dict_items F.entry_dict_items rfl (PySem.evalArgs_none ⟨rfl, raw.typeIs, F.args_dict_items_1 _, _, DT.meetsItems (es := es) (ep := ep) hs, raw, fin⟩)
theorem walk_itemsT {d : Addr} {o : Obj} {kvs : List (List Key × V)} : Walk (IitT d o kvs) kvs.length (fun H => H d = some (.frz o (.dT kvs)))
    (fun i H x H' => ∃ (T q : Addr) (k : List Key) (v : V), kvs[i]? = some (k, v) ∧ x = .ref T ∧ H T = none ∧ H q = some (.tup (k.map kV)) ∧ H' = upd H T (.tup [.ref q, v])) :=
  ⟨fun _ _ hi q => ⟨q, hi⟩, fun _ q => ⟨q, rfl⟩, fun _ _ _ _ _ _ y => y⟩
end Bw

/-! #### R7 -/
set_option Elab.async false
set_option linter.all false
set_option maxRecDepth 100000
set_option maxHeartbeats 4000000
/-! rules that the layer lacks, 7: dicts compared (both answers), sorted of (text, int) tuples, own == and != -/
namespace Bw
open PySem PySem.Spec PyProof.Rows L2
/-- a dict of texts and ints, by its keys and a function -/
def DI (ks : List Str) (f : Str → Int) : List (Key × V) := ks.map fun k => (Sum.inr k, V.int (f k))
section
variable {X : Cx}
theorem valV_DI : ∀ {ks : List Str} {f : Str → Int} {k : Str}, k ∈ ks → valV (DI ks f) (Sum.inr k) = some (V.int (f k))
  | a :: r, f, k, h => by
    by_cases e : a = k
    · subst e
      unfold valV DI
      simp
    · have h' : k ∈ r := by
        rcases List.mem_cons.mp h with z | z
        · exact absurd z.symm e
        · exact z
      have ih := valV_DI (f := f) h'
      unfold valV DI at ih ⊢
      rw [List.map_cons, List.find?_cons]
      have : decide ((Sum.inr a : Key) = Sum.inr k) = false := decide_eq_false fun q => e (Sum.inr.inj q)
      simp only [this]
      exact ih
theorem hits_DI {P : Program} {w : World} {A : Around} {s : Shared} {ks : List Str} {f g : Str → Int} {vb : List (Key × Value)} (rb : KV (DI ks g) vb) : ∀ {l : List Str} {va : List (Key × Value)}, KV (DI l f) va → (∀ k ∈ l, k ∈ ks) →
    PySem.W.KeqHitsP P w A s vb va (l.all fun k => decide (f k = g k))
  | [], va, r, _ => by
    have : va = [] := by
      cases r
      rfl
    subst this
    exact .nil
  | k :: l, va, r, h => by
    cases r with
    | cons hr t =>
      rename_i q qs
      obtain ⟨key, v⟩ := q
      obtain ⟨h1, h2⟩ := hr
      have h1' : Sum.inr k = key := h1
      subst h1'
      have rr : RelO (some (V.int (g k))) (valueAt vb (Sum.inr k)) := by
        rw [← valV_DI (f := g) (h k List.mem_cons_self)]
        exact rb.val _
      obtain ⟨y, hy, ry⟩ := rr.some_of
      have e := (eqAt_V (A := A) (s := s) (show RelV (V.int (f k)) v from h2) ry rfl rfl).eqP (prog := P) (w := w)
      have eb : eqV (V.int (f k)) (V.int (g k)) = decide (f k = g k) := by
        show (f k == g k) = _
        exact Bool.beq_eq_decide_eq _ _
      rw [eb] at e
      rw [List.all_cons]
      exact .hit hy e (hits_DI rb t fun k hk => h k (List.mem_cons_of_mem _ hk))
/-- == of two dicts with the same keys in the same order -/
def rEqDI : R2 := fun x y H Q => ∃ (a b : Addr) (ks : List Str) (f g : Str → Int), x = .ref a ∧ y = .ref b ∧ H a = some (.dK (DI ks f)) ∧ H b = some (.dK (DI ks g)) ∧ Q (.bl (ks.all fun k => decide (f k = g k))) H
theorem op_eqDI (hu : X.A.units < cLine) : OpR X (compareOp .Eq) rEqDI := by
  intro pins s σ H x y v u Q I rx ry h
  obtain ⟨a, b, ks, f, g, rfl, rfl, ea, eb, q⟩ := h
  obtain rfl : v = Value.ref a := rx
  obtain rfl : u = Value.ref b := ry
  obtain ⟨_, ya, va, ra, da⟩ := (show ObjOk X.prog X.w H s.heap a (.dK _) from I.hok a _ ea)
  obtain ⟨_, yb, vb, rb, db⟩ := (show ObjOk X.prog X.w H s.heap b (.dK _) from I.hok b _ eb)
  have hl : va.length = vb.length := by
    have h1 : (DI ks f).length = va.length := Paired.length ra
    have h2 : (DI ks g).length = vb.length := Paired.length rb
    unfold DI at h1 h2
    rw [List.length_map] at h1 h2
    omega
  show wpAny (model X.prog X.w) X.A (richCompare .Eq _ _) _ _ _
  refine PySem.W.rcP_dicts (knd := mixKind X.prog X.w) (r := ks.all fun k => decide (f k = g k)) ya yb da db hu (fun _ => hits_DI rb ra fun _ h => h) _ _ ?_
  rw [show (va.length == vb.length && ks.all fun k => decide (f k = g k)) = ks.all fun k => decide (f k = g k) from by rw [hl]; simp]
  exact ⟨.bl _, H, I, rfl, q⟩

/-! ### sorted of a list of (text, int), whose texts stand in order -/
def rSortTI (K : PySem.W.Frag) : List V → Hp → VK → Prop := fun vs H Q => ∃ (a : Addr) (xs : List (Addr × Str × Int)), vs = [.ref a] ∧ SqL K H a (xs.map fun x => V.ref x.1) ∧ (∀ x ∈ xs, SqT K H x.1 [.str x.2.1, .int x.2.2]) ∧
  xs.Pairwise (fun x y => x.2.1.cps.toList < y.2.1.cps.toList) ∧ xs.length ≤ 100 ∧ ∀ p, H p = none → Q (.ref p) (upd H p (.lst (xs.map fun x => V.ref x.1)))
def encTI (x : Addr × Str × Int) : PyData := .tuple [.str x.2.1, .int x.2.2]
theorem vals_ofrefs : ∀ {xs : List (Addr × Str × Int)} {us : List Value}, Vals (xs.map fun x => V.ref x.1) us → PySem.W.EachIs (fun v (b : Addr × Str × Int) => v = Value.ref b.1) us xs
  | [], _, r => by
    cases r
    exact .nil
  | x :: xs, _, r => by
    cases r with
    | cons h t => exact .cons h (vals_ofrefs t)
theorem vals_torefs : ∀ {xs : List (Addr × Str × Int)} {us : List Value}, PySem.W.EachIs (fun v (b : Addr × Str × Int) => v = Value.ref b.1) us xs → Vals (xs.map fun x => V.ref x.1) us
  | _, _, .nil => .nil
  | _, _, .cons h t => .cons h (vals_torefs t)
theorem each_with {P : Value → Addr × Str × Int → Prop} {R : Value → Addr × Str × Int → Prop} : ∀ {us : List Value} {xs : List (Addr × Str × Int)}, PySem.W.EachIs R us xs → (∀ x ∈ xs, ∀ u, R u x → P u x) → PySem.W.EachIs P us xs
  | _, _, .nil, _ => .nil
  | _, _, .cons h t, f => .cons (f _ List.mem_cons_self _ h) (each_with t fun x hx => f x (List.mem_cons_of_mem _ hx))
theorem cr_sortTI (hu : X.A.units + 64 < cLine) : CallR X (.builtin "sorted") (rSortTI X.K) := by
  intro pins s σ H vs us Q I r h
  obtain ⟨a, xs, rfl, hs, hx, hp, hlen, q⟩ := h
  obtain ⟨u, rfl, ru⟩ := vals1 r
  obtain rfl : u = Value.ref a := ru
  obtain ⟨its, rv, hl, hz⟩ := I.list hs
  have e := vals_ofrefs rv
  have er : PySem.W.EachIs (fun v b => ∃ as, Reads s.heap v (encTI b) as) its xs := each_with e fun x hxm u hu => by
    subst hu
    exact Dp.reads I _ (V.ref x.1) _ (.tup (hx x hxm) (.cons (.str _) (.cons (.int _) .nil))) rfl
  have hsl := sizeLine_eq
  have srt : xs.mergeSort (PySem.W.dataLe false encTI) = xs := by
    refine List.mergeSort_of_pairwise (hp.imp fun {x y} hxy => ?_)
    have h1 : (PyData.str y.2.1).eqv (.str x.2.1) = false := by
      show (y.2.1 == x.2.1) = false
      refine beq_eq_false_iff_ne.mpr fun e => ?_
      rw [e] at hxy
      exact List.lt_irrefl _ hxy
    have h2 := congrFun (congrFun (PySem.W.dataLe_str (fun b : Addr × Str × Int => b.2.1)) x) y
    rw [PySem.W.dataLe_eq] at h2 ⊢
    show (!PySem.W.dataLt (.tuple [.str y.2.1, .int y.2.2]) (.tuple [.str x.2.1, .int x.2.2])) = true
    rw [PySem.W.dataLt_pair rfl rfl, if_neg (by rw [h1]; exact Bool.false_ne_true)]
    have h3 : (!PySem.W.dataLt (.str y.2.1) (.str x.2.1)) = decide (x.2.1.cps.toList ≤ y.2.1.cps.toList) := h2
    rw [h3]
    exact decide_eq_true (List.le_of_lt hxy)
  refine PySem.W.sorted_data (enc := encTI) (R := fun v b => v = Value.ref b.1) hl.isList e er (PySem.W.AllAlike.of fun _ _ => rfl) (PySem.W.Sortable.tuples fun b => ⟨_, _, rfl⟩) (by omega) (fun b _ => ?_) fun out h1 h2 => ?_
  · show X.A.units + 2 + (PyData.tuple [.str b.2.1, .int b.2.2]).depth < cLine
    have : (PyData.tuple [.str b.2.1, .int b.2.2]).depth ≤ 2 := by
      simp [PyData.depth, PyData.depthAll]
    omega
  · rw [srt] at h2
    obtain ⟨ep, he'⟩ := PyProof.Rows.sortedAll_at s.heap its out.toArray
    refine ⟨.ref _, upd H (s.heap.objs.size + 1) (.lst (xs.map fun x => V.ref x.1)), I.laid (t' := s.toks) (fun _ _ => PyProof.Rows.sortedAll_old) (Nat.le_succ _) ⟨?_, out, ep, vals_torefs h2, he'⟩, rfl, q _ (I.hok.fresh (Nat.le_succ _))⟩
    rw [List.length_map]; omega
end

/-! ### own == and != -/
section
variable {prog : Program} {w : World} {A : Around} {E : Value → Shared → Prop} {s : Shared} {K : PySem.W.Frag} {x y C f : Addr} {ox : Obj} {od : Option Obj}
open PySem.W in
theorem ne_ownK {Q : Value → Shared → Prop} (hu : A.units + 1 < cLine) (X : K.In s.heap) (I : InstAt s.heap x ox C od) (hb : Looks (model prog w) s.heap (typeOf (.ref y)) (.ref C))
    (he : findIn K (.ref C) "__eq__" = some (some (.ref f))) (hf : isFn K (.ref f) = true) (hn : findIn K (.ref C) "__ne__" = some (some (.builtin "object.__ne__"))) (ho : subIn K (.ref C) (.type "object") = some true)
    (h : wpAny (model prog w) A.in1 (call (.ref f) [.ref x, .ref y]) (fun v s' => ∃ b, v = .bool b ∧ Q (.bool (!b)) s') E s) : wpAny (model prog w) A (richCompare .NotEq (.ref x) (.ref y)) Q E s := by
  have body : wpAny (model prog w) A.in1 (Builtin.«object.__ne__» ⟨[.ref x, .ref y], []⟩) (fun fin s' => ∃ v, fin = .done (.ret v) ∧ (∃ b, v = .bool (!b) ∧ Q (.bool (!b)) s')) E s := by
    unfold Builtin.«object.__ne__»
    refine wpAny_bind (wpAny_pure ?_)
    refine wpAny_bind (wpAny_cRoomFor hu ?_)
    refine wpAny_bind (ifBound_K X I he hf (wpAny_mono h (fun v s' ⟨b, ev, q⟩ => ?_) fun _ _ e => e))
    subst ev
    exact wpAny_bind (wpAny_truthy_bool (wpAny_pure ⟨_, rfl, b, rfl, q⟩))
  have chk : ∀ (Q' : Unit → Shared → Prop) (E' : Value → Shared → Prop), Q' () s → wpAny (model prog w) A.in1 (checkBuiltinCall "object.__ne__" ⟨[.ref x, .ref y], []⟩) Q' E' s := fun Q' E' hq => by
    have ha := PySem.F.cmpArgs_ne (.ref x) (.ref y)
    simp only [checkBuiltinCall, PySem.F.cmpKind_ne, PySem.F.cmpSplit_ne]
    refine wpAny_bind ?_
    unfold isInstance
    refine wpAny_bind (I.type.here ((looks_subIn X ho).here ?_))
    cases hsig : Manifest.signature? "object.__ne__" with
    | none => exact wpAny_pure hq
    | some sig =>
      simp only [argsOk, hsig] at ha
      have h2 : Bind.checkArgs "object.__ne__" sig ⟨[.ref x, .ref y], []⟩ = pure () := ha
      show wpAny _ _ (Bind.checkArgs "object.__ne__" sig ⟨[.ref x, .ref y], []⟩) Q' E' _
      rw [h2]; exact wpAny_pure hq
  have one : wpAny (model prog w) A (tryCompare (.ref x) "__ne__" (.ref y)) (fun r s' => ∃ v, r = some v ∧ Q v s') E s := by
    unfold tryCompare
    refine wpAny_bind ?_
    simp only [callSpecialIfBound?, bindSpecialIfBound?]
    refine wpAny_holding (wpAny_bind (wpAny_bind (wpAny_bind (I.type.here ((looks_findIn X hn).here ?_)))))
    refine wpAny_bind (wpAny_askSetting (wpAny_ite ?_))
    have fin : wpAny (model prog w) A (call (.builtin "object.__ne__") ([.ref x] ++ [.ref y]) >>= fun v => pure (some v)) (fun a s' => wpAny (model prog w) A (match a with | some .notImplemented | none => pure none | some v => pure (some v)) (fun r s' => ∃ v, r = some v ∧ Q v s') E s') E s := by
      refine wpAny_bind (wpAny_call (codeAny_call_builtin PySem.F.cmp_object.ne.plain PySem.F.cmpEntry_ne (chk _ _ (wpAny_mono body (fun fin s' ⟨v, ev, b, e2, q⟩ => ?_) fun _ _ e => e))))
      subst ev e2
      exact wpAny_pure (wpAny_pure ⟨_, rfl, q⟩)
    split
    · refine wpAny_bind (wpAny_of_eq (PySem.F.cmp_object.ne.bind _) (wpAny_pure (by exact fin)))
    · exact wpAny_tryCatch (wpAny_bind (wpAny_of_eq (PySem.F.cmp_object.ne.bind _) (wpAny_pure (by exact fin))))
  unfold richCompare
  simp only [oneThing_ref]
  refine wpAny_holding (wpAny_bind (wpAny_cRoomFor (Nat.lt_of_succ_lt hu) ?_))
  rw [cmpInfo_NotEq]
  dsimp only
  refine wpAny_bind (I.type.here (wpAny_bind (hb.here ?_)))
  rw [show (Value.ref C != Value.ref C) = false from by simp]
  simp only [Bool.false_eq_true, if_false]
  refine wpAny_bind (wpAny_pure ?_)
  simp only [Bool.false_eq_true, if_false]
  refine wpAny_bind (wpAny_mono one (fun r s' z => ?_) fun _ _ e => e)
  obtain ⟨v, rfl, hq⟩ := z
  exact wpAny_pure hq
end
end Bw

/-! #### R8 -/
set_option Elab.async false
set_option linter.all false
set_option maxRecDepth 100000
set_option maxHeartbeats 4000000
namespace Bw
open PySem PySem.Spec PyProof.Rows L2
section
variable {X : Cx} {n : Nat}
def rOwn (C : Addr) (sp : Sp) (neg : Bool) : R2 := fun x y H Q => ∃ (a b dx dy : Addr) (fs gs : List (Str × V)), x = .ref a ∧ y = .ref b ∧ H a = some (.ins C dx fs) ∧ H b = some (.ins C dy gs) ∧ sp [.ref a, .ref b] H (fun v H' => ∃ r : Bool, v = .bl r ∧ Q (.bl (if neg = true then !r else r)) H') E0
theorem own_call {CX : CXT} {f : Addr} {fd : FuncData} {ps : List Str} {sp : Sp} (F : FnOk X.prog X.w X.K X.mg X.base CX n f fd ps sp) (hb : Binds X.K fd ps []) (hx : Passes CX X E0)
    {A : Around} (sb : Sub X n A) {pins : List (Addr × Obj)} {s : Shared} {σ : L2.St} {H : Hp} {a b : Addr} {Q : VK} (I : Inv X pins σ H s) (hsp : sp [.ref a, .ref b] H Q E0) :
    wpAny (model X.prog X.w) A (call (.ref f) [.ref a, .ref b]) (EP X pins σ Q) X.xe s := by
  have e0 : Env0 X.prog X.w X.K X.mg X.base A X.stack s H := by
    have e := I.env0
    exact ⟨by rw [sb.fr]; exact e.frames, e.mod, e.bs, e.bsz, e.funs, e.frf, e.hok, e.bare⟩
  have hl := F.len _ _ _ _ hsp
  have r2 : Vals [V.ref a, V.ref b] [Value.ref a, Value.ref b] := .cons rfl (.cons rfl .nil)
  refine wpAny_call (codeAny_mono (F.run A X.stack s H ⟨[.ref a, .ref b], []⟩ [.ref a, .ref b] [.ref a, .ref b] _ E0 sb.room e0 (by
    have := hb s [.ref a, .ref b] I.kIn (by simpa using hl)
    simpa using this) r2 hsp) fun r s' hq => ?_)
  cases r with
  | error e => exact hx pins σ H s e s' I hq
  | ok fl =>
    cases fl with
    | ret w =>
      obtain ⟨z, H', I', rz, q⟩ := I.after hq
      exact ⟨z, H', I', rz, q⟩
    | next => exact False.elim hq
    | brk => exact False.elim hq
    | cont => exact False.elim hq
theorem op_ownEq {CX : CXT} {C f : Addr} {fd : FuncData} {ps : List Str} {sp : Sp} (F : FnOk X.prog X.w X.K X.mg X.base CX n f fd ps sp) (hr : Room n X.A)
    (hs : PySem.W.findIn X.K (.ref C) "__eq__" = some (some (.ref f))) (hf : PySem.W.isFn X.K (.ref f) = true) (hb : Binds X.K fd ps []) (hx : Passes CX X E0) : OpR X (compareOp .Eq) (rOwn C sp false) := by
  intro pins s σ H x y v u Q I rx ry h
  obtain ⟨a, b, dx, dy, fs, gs, rfl, rfl, ha, hb', hsp⟩ := h
  cases rx
  cases ry
  obtain ⟨mA, J, _⟩ := ins_get I.hok ha
  obtain ⟨mB, J', _⟩ := ins_get I.hok hb'
  obtain ⟨od, J, _⟩ := J.look
  obtain ⟨od', J', _⟩ := J'.look
  obtain ⟨m, hF⟩ := I.fr
  show wpAny (model X.prog X.w) X.A (richCompare .Eq _ _) _ _ _
  refine PySem.W.cmp_K (op := .Eq) (tb := .ref C) hr.units0 hF I.ok.mod.kin J J'.type (by simp [PySem.W.notFirst]) hs hf ?_
  refine thn (own_call F hb hx ⟨hr, rfl⟩ I hsp) fun w s' ⟨z, H', I', rz, r, ez, q⟩ => ?_
  subst ez
  cases rz
  exact ⟨.bl r, H', I', rfl, q⟩
theorem op_ownNe {CX : CXT} {C f : Addr} {fd : FuncData} {ps : List Str} {sp : Sp} (F : FnOk X.prog X.w X.K X.mg X.base CX n f fd ps sp) (hr : Room (n + 1) X.A)
    (hs : PySem.W.findIn X.K (.ref C) "__eq__" = some (some (.ref f))) (hf : PySem.W.isFn X.K (.ref f) = true) (hn : PySem.W.findIn X.K (.ref C) "__ne__" = some (some (.builtin "object.__ne__"))) (ho : PySem.W.subIn X.K (.ref C) (.type "object") = some true) (hb : Binds X.K fd ps []) (hx : Passes CX X E0) : OpR X (compareOp .NotEq) (rOwn C sp true) := by
  intro pins s σ H x y v u Q I rx ry h
  obtain ⟨a, b, dx, dy, fs, gs, rfl, rfl, ha, hb', hsp⟩ := h
  cases rx
  cases ry
  obtain ⟨mA, J, _⟩ := ins_get I.hok ha
  obtain ⟨mB, J', _⟩ := ins_get I.hok hb'
  obtain ⟨od, J, _⟩ := J.look
  obtain ⟨od', J', _⟩ := J'.look
  show wpAny (model X.prog X.w) X.A (richCompare .NotEq _ _) _ _ _
  refine ne_ownK (hu_of hr) I.kIn J J'.type hs hf hn ho ?_
  refine thn (own_call F hb hx ⟨hr.in1, rfl⟩ I hsp) fun w s' ⟨z, H', I', rz, r, ez, q⟩ => ?_
  subst ez
  cases rz
  exact ⟨r, rfl, .bl (!r), H', I', rfl, q⟩
end
end Bw

/-! #### R9 -/
set_option Elab.async false
set_option linter.all false
set_option maxRecDepth 100000
set_option maxHeartbeats 4000000
/-! rules that the layer lacks, 9: == of two pairs (a dict of texts and ints, a tuple of data) -/
namespace Bw
section
open PySem PySem.SeqAt
open AutoSeq1 (wpAny_loadPart')
open MeetsSeq MeetsSeq2 MeetsSeq3 SeqRoads2
variable {prog : Program} {w : World}
theorem tuple_eqInP (l b : Addr) (items items2 : Array Value) (n n2 : Nat) (dd dd2 : Option Addr) (sl sl2 : Array (Option Value)) (e : Nat → Bool) :
    MeetsIn prog w (Builtin.«tuple.__eq__» ⟨[.ref l, .ref b], []⟩)
      (fun A R s => s.heap.get? l = some { cls := .type "tuple", dict := dd, data := .seq items n, slots := sl } ∧ s.heap.get? b = some { cls := .type "tuple", dict := dd2, data := .seq items2 n2, slots := sl2 } ∧
        (∀ j (h1 : j < items.size) (h2 : j < items2.size), EqP prog w A.in1 s items[j] items2[j] (e j)) ∧
        R (.ok (.ret (.bool ((List.range (min items.size items2.size)).all e && items.size == items2.size)))) s) := by
    intro A R s h
    obtain ⟨hp, g, d, tk, os⟩ := s; obtain ⟨hl, hb, he, h⟩ := h
    have f2 := AutoSeq1.sub_tuple_tuple
    have hZ : (items.toList.zip items2.toList).length = min items.size items2.size := by simp
    wp_walk using wpAny_loadPart' hl, wpAny_loadPart' hb, wpAny_forIn_list _ (fun rest b s' => b.1 = none ∧ s' = ⟨hp, g, d, tk, os⟩ ∧ ∃ i, rest = (items.toList.zip items2.toList).drop i ∧
      R (.ok (.ret (.bool (((List.range (min items.size items2.size)).drop i).all e && items.size == items2.size)))) ⟨hp, g, d, tk, os⟩) _
    case turn =>
      rintro ⟨y, x⟩ rest b s' ⟨hb', rfl, i, hz, hR⟩
      have hlt : i < (items.toList.zip items2.toList).length := by
        rcases Nat.lt_or_ge i (items.toList.zip items2.toList).length with h' | h'
        · exact h'
        · rw [List.drop_of_length_le h'] at hz; cases hz
      have hm : i < min items.size items2.size := hZ ▸ hlt
      have h1 : i < items.size := Nat.lt_of_lt_of_le hm (Nat.min_le_left _ _)
      have h2 : i < items2.size := Nat.lt_of_lt_of_le hm (Nat.min_le_right _ _)
      rw [List.drop_eq_getElem_cons hlt] at hz
      injection hz with hyx hrest
      have hy : y = items[i] := by have := congrArg Prod.fst hyx; simpa using this
      have hx : x = items2[i] := by have := congrArg Prod.snd hyx; simpa using this
      subst hy hx
      have hd : (List.range (min items.size items2.size)).drop i = i :: (List.range (min items.size items2.size)).drop (i + 1) := by simp [List.drop_eq_getElem_cons, hm]
      rw [hd, List.all_cons] at hR
      refine wpAny_bind (he i h1 h2 _ _ ?_)
      cases hy : e i with
      | true =>
        rw [hy] at hR
        wp_walk
        exact ⟨rfl, rfl, i + 1, hrest, by simpa using hR⟩
      | false =>
        rw [hy] at hR
        wp_walk
        exact (by simpa using hR)
    case fin =>
      rintro ⟨b1, b2⟩ s' ⟨hb', rfl, i, hz, hR⟩
      simp only at hb'
      subst hb'
      have hge : min items.size items2.size ≤ i := by
        rcases Nat.lt_or_ge i (items.toList.zip items2.toList).length with h' | h'
        · rw [List.drop_eq_getElem_cons h'] at hz; cases hz
        · exact hZ ▸ h'
      rw [List.drop_of_length_le (by simpa using hge)] at hR
      wp_walk
      exact (by simpa [Builtin.Tuple.tupleCompareSizes] using hR)
    case h =>
      exact ⟨rfl, rfl, 0, rfl, by simpa using h⟩
theorem rcP_tups {A : Around} {s : Shared} {l b : Addr} {items items2 : Array Value} {e : Nat → Bool} (hl : s.heap.IsTuple l items) (hb : s.heap.IsTuple b items2) (hu : A.units < cLine)
    (he : ∀ j (h1 : j < items.size) (h2 : j < items2.size), EqP prog w A.in1 s items[j] items2[j] (e j)) (E Q : Value → Shared → Prop) (h : Q (.bool ((List.range (min items.size items2.size)).all e && items.size == items2.size)) s) : wpAny (model prog w) A (richCompare .Eq (.ref l) (.ref b)) Q E s := by
  obtain ⟨⟨cls, dd, data, sl⟩, ho, hc, n, hd⟩ := id hl
  obtain ⟨⟨cls2, dd2, data2, sl2⟩, ho2, hc2, n2, hd2⟩ := id hb
  simp only at hc hd hc2 hd2
  subst hc hd hc2 hd2
  have ta : s.TypeIs (.ref l) "tuple" := ⟨_, ho, rfl⟩
  have tb : s.TypeIs (.ref b) "tuple" := ⟨_, ho2, rfl⟩
  exact wpAny_richCompare_same_room (op := .Eq) ta tb F.slot_tuple_eq (call_meetsIn F.slot_tuple_eq ta F.entry_tuple_eq (F.args_tuple_eq_2 _ _) (tuple_eqInP l b items items2 n n2 dd dd2 sl sl2 e)
    ⟨ho, ho2, he, show Value.bool ((List.range (min items.size items2.size)).all e && items.size == items2.size) ≠ Value.notImplemented ∧ Q (.bool ((List.range (min items.size items2.size)).all e && items.size == items2.size)) s from ⟨(fun x => nomatch x), h⟩⟩) hu
end
section
open PySem PySem.Spec PyProof.Rows L2
variable {X : Cx}
/-- (dict, data) == (dict, data) -/
def rEqPair (K : PySem.W.Frag) : R2 := fun x y H Q => ∃ (p q a b : Addr) (u v : V) (ks : List Str) (f g : Str → Int) (da db : PyData), x = .ref p ∧ y = .ref q ∧ H p = some (.tup [.ref a, u]) ∧ H q = some (.tup [.ref b, v]) ∧ a ≠ b ∧
  H a = some (.dK (DI ks f)) ∧ H b = some (.dK (DI ks g)) ∧ Dp K H u da ∧ Dp K H v db ∧ da.canLay0 = true ∧ db.canLay0 = true ∧ min da.depth db.depth ≤ 50 ∧ Q (.bl ((ks.all fun k => decide (f k = g k)) && da.eqv db)) H
theorem op_eqPair (hu : X.A.units + 64 < cLine) : OpR X (compareOp .Eq) (rEqPair X.K) := by
  intro pins s σ H x y v u Q I rx ry h
  obtain ⟨p, q, a, b, uu, vv, ks, f, g, da, db, rfl, rfl, hp, hq, nab, ea, eb, d1, d2, c1, c2, hd, hQ⟩ := h
  obtain rfl : v = Value.ref p := rx
  obtain rfl : u = Value.ref q := ry
  obtain ⟨us, r1, p1, _⟩ := I.tuple (SqT.of hp)
  obtain ⟨ws, r2, p2, _⟩ := I.tuple (SqT.of hq)
  cases r1 with
  | cons a1 t1 =>
  cases t1 with
  | cons a2 t2 =>
  cases t2
  cases r2 with
  | cons b1 s1 =>
  cases s1 with
  | cons b2 s2 =>
  cases s2
  rename_i x1 x2 y1 y2
  obtain rfl : x1 = Value.ref a := a1
  obtain rfl : y1 = Value.ref b := b1
  obtain ⟨as, ra⟩ := Dp.reads I _ uu _ d1 a2
  obtain ⟨bs, rb⟩ := Dp.reads I _ vv _ d2 b2
  have e2 := (SeqAt.eqAt_reads da db X.A.in1 s x2 y2 as bs ra rb c1 c2 (by show X.A.units + 1 + _ < cLine; omega)).eqP (prog := X.prog) (w := X.w)
  have e1 : SeqAt.EqP X.prog X.w X.A.in1 s (.ref a) (.ref b) (ks.all fun k => decide (f k = g k)) := by
    refine SeqAt.eqP_refs nab fun E Q' hq' => ?_
    obtain ⟨_, ya, va, ra, dka⟩ := (show ObjOk X.prog X.w H s.heap a (.dK _) from I.hok a _ ea)
    obtain ⟨_, yb, vb, rb, dkb⟩ := (show ObjOk X.prog X.w H s.heap b (.dK _) from I.hok b _ eb)
    have hl : va.length = vb.length := by
      have h1 : (DI ks f).length = va.length := Paired.length ra
      have h2 : (DI ks g).length = vb.length := Paired.length rb
      unfold DI at h1 h2
      rw [List.length_map] at h1 h2
      omega
    refine PySem.W.rcP_dicts (knd := mixKind X.prog X.w) (r := ks.all fun k => decide (f k = g k)) ya yb dka dkb (by show X.A.units + 1 < cLine; omega) (fun _ => hits_DI rb ra fun _ h => h) _ _ ?_
    rw [show (va.length == vb.length && ks.all fun k => decide (f k = g k)) = ks.all fun k => decide (f k = g k) from by rw [hl]; simp]
    exact hq'
  show wpAny (model X.prog X.w) X.A (richCompare .Eq _ _) _ _ _
  refine rcP_tups (e := fun j => if j = 0 then (ks.all fun k => decide (f k = g k)) else da.eqv db) p1 p2 (by omega) (fun j h1 h2 => ?_) _ _ ?_
  · match j, h1, h2 with
    | 0, _, _ => exact e1
    | 1, _, _ => exact e2
    | j + 2, h, _ => exact absurd h (by simp)
  · show EP X pins σ Q (.bool (((ks.all fun k => decide (f k = g k)) && ((da.eqv db) && true)) && true)) s
    rw [Bool.and_true, Bool.and_true]
    exact ⟨.bl _, H, I, rfl, hQ⟩
end
end Bw

/-! #### R10 -/
set_option Elab.async false
set_option linter.all false
set_option maxRecDepth 100000
set_option maxHeartbeats 4000000
/-! rules that the layer lacks, 10: != with an empty list or tuple; tuples of the same objects; the pair of a plan -/
namespace Bw
open PySem PySem.Spec PyProof.Rows L2
section
variable {X : Cx}
/-- xs != [] -/
def rNeNilL (K : PySem.W.Frag) : R2 := fun x y H Q => ∃ (a b : Addr) (xs : List V), x = .ref a ∧ y = .ref b ∧ SqL K H a xs ∧ SqL K H b [] ∧ Q (.bl (!xs.isEmpty)) H
theorem op_neNilL (hu : X.A.units < cLine) : OpR X (compareOp .NotEq) (rNeNilL X.K) := by
  intro pins s σ H x y v u Q I rx ry h
  obtain ⟨a, b, xs, rfl, rfl, ha, hb, hQ⟩ := h
  obtain rfl : v = Value.ref a := rx
  obtain rfl : u = Value.ref b := ry
  obtain ⟨us, r1, p1, _⟩ := I.list ha
  obtain ⟨ws, r2, p2, _⟩ := I.list hb
  cases r2
  show wpAny (model X.prog X.w) X.A (richCompare .NotEq _ _) _ _ _
  cases r1 with
  | nil =>
    refine SeqAt.RcNeAt.lists (e := fun _ => true) p1.isList p2.isList rfl hu (fun j h1 => absurd h1 (Nat.not_lt_zero j)) _ _ _ _ ?_
    exact ⟨.bl _, H, I, rfl, hQ⟩
  | cons h t =>
    refine SeqAt.RcNeAt.lists_lengths p1.isList p2.isList (by simp) hu _ _ _ _ ?_
    exact ⟨.bl _, H, I, rfl, hQ⟩
/-- t != () -/
def rNeNilT (K : PySem.W.Frag) : R2 := fun x y H Q => ∃ (a b : Addr) (xs : List V), x = .ref a ∧ y = .ref b ∧ SqT K H a xs ∧ SqT K H b [] ∧ Q (.bl (!xs.isEmpty)) H
theorem op_neNilT (hu : X.A.units < cLine) : OpR X (compareOp .NotEq) (rNeNilT X.K) := by
  intro pins s σ H x y v u Q I rx ry h
  obtain ⟨a, b, xs, rfl, rfl, ha, hb, hQ⟩ := h
  obtain rfl : v = Value.ref a := rx
  obtain rfl : u = Value.ref b := ry
  obtain ⟨us, r1, p1, _⟩ := I.tuple ha
  obtain ⟨ws, r2, p2, _⟩ := I.tuple hb
  cases r2
  show wpAny (model X.prog X.w) X.A (richCompare .NotEq _ _) _ _ _
  refine SeqAt.RcNeAt.tuples (e := fun _ => true) p1 p2 hu (fun j _ h2 => absurd h2 (Nat.not_lt_zero j)) _ _ _ _ ?_
  cases r1 with
  | nil => exact ⟨.bl _, H, I, rfl, hQ⟩
  | cons h t => exact ⟨.bl _, H, I, by simp; rfl, hQ⟩
theorem vals_refs : ∀ {as : List Addr} {us : List Value}, Vals (as.map V.ref) us → us = as.map Value.ref
  | [], _, r => by cases r; rfl
  | a :: as, _, r => by
    cases r with
    | cons h t => rw [vals_refs t, show _ = Value.ref a from h]; rfl
/-- two tuples of the same objects: != is False -/
def rNeSame (K : PySem.W.Frag) : R2 := fun x y H Q => ∃ (a b : Addr) (as : List Addr), x = .ref a ∧ y = .ref b ∧ SqT K H a (as.map V.ref) ∧ SqT K H b (as.map V.ref) ∧ Q (.bl false) H
theorem op_neSame (hu : X.A.units < cLine) : OpR X (compareOp .NotEq) (rNeSame X.K) := by
  intro pins s σ H x y v u Q I rx ry h
  obtain ⟨a, b, as, rfl, rfl, ha, hb, hQ⟩ := h
  obtain rfl : v = Value.ref a := rx
  obtain rfl : u = Value.ref b := ry
  obtain ⟨us, r1, p1, _⟩ := I.tuple ha
  obtain ⟨ws, r2, p2, _⟩ := I.tuple hb
  have e1 := vals_refs r1
  have e2 := vals_refs r2
  subst e1 e2
  show wpAny (model X.prog X.w) X.A (richCompare .NotEq _ _) _ _ _
  refine SeqAt.RcNeAt.tuples (e := fun _ => true) p1 p2 hu (fun j _ _ => SeqAt.EqAt.same _) _ _ _ _ ?_
  rw [show ((List.range (min (as.map Value.ref).toArray.size (as.map Value.ref).toArray.size)).all fun _ => true) = true from List.all_eq_true.mpr fun _ _ => rfl]
  exact ⟨.bl false, H, I, by simp; rfl, hQ⟩
/-- (dict, tuple) == (dict, tuple): the second tuple goes on where the first one ends -/
def rEqPlan (K : PySem.W.Frag) : R2 := fun x y H Q => ∃ (p q a b c e : Addr) (as bs : List Addr) (ks : List Str) (f g : Str → Int), x = .ref p ∧ y = .ref q ∧ H p = some (.tup [.ref a, .ref c]) ∧ H q = some (.tup [.ref b, .ref e]) ∧ a ≠ b ∧
  H a = some (.dK (DI ks f)) ∧ H b = some (.dK (DI ks g)) ∧ SqT K H c (as.map V.ref) ∧ SqT K H e ((as ++ bs).map V.ref) ∧ Q (.bl ((ks.all fun k => decide (f k = g k)) && bs.isEmpty)) H
theorem op_eqPlan (hu : X.A.units + 64 < cLine) : OpR X (compareOp .Eq) (rEqPlan X.K) := by
  intro pins s σ H x y v u Q I rx ry h
  obtain ⟨p, q, a, b, c, e, as, bs, ks, f, g, rfl, rfl, hp, hq, nab, ea, eb, hc, he, hQ⟩ := h
  obtain rfl : v = Value.ref p := rx
  obtain rfl : u = Value.ref q := ry
  obtain ⟨us, r1, p1, _⟩ := I.tuple (SqT.of hp)
  obtain ⟨ws, r2, p2, _⟩ := I.tuple (SqT.of hq)
  have e1 := vals_refs (as := [a, c]) r1
  have e2 := vals_refs (as := [b, e]) r2
  subst e1 e2
  have d1 : SeqAt.EqP X.prog X.w X.A.in1 s (.ref a) (.ref b) (ks.all fun k => decide (f k = g k)) := by
    refine SeqAt.eqP_refs nab fun E Q' hq' => ?_
    obtain ⟨_, ya, va, ra, dka⟩ := (show ObjOk X.prog X.w H s.heap a (.dK _) from I.hok a _ ea)
    obtain ⟨_, yb, vb, rb, dkb⟩ := (show ObjOk X.prog X.w H s.heap b (.dK _) from I.hok b _ eb)
    have hl : va.length = vb.length := by
      have h1 : (DI ks f).length = va.length := Paired.length ra
      have h2 : (DI ks g).length = vb.length := Paired.length rb
      unfold DI at h1 h2
      rw [List.length_map] at h1 h2
      omega
    refine PySem.W.rcP_dicts (knd := mixKind X.prog X.w) (r := ks.all fun k => decide (f k = g k)) ya yb dka dkb (by show X.A.units + 1 < cLine; omega) (fun _ => hits_DI rb ra fun _ h => h) _ _ ?_
    rw [show (va.length == vb.length && ks.all fun k => decide (f k = g k)) = ks.all fun k => decide (f k = g k) from by rw [hl]; simp]
    exact hq'
  have d2 : SeqAt.EqP X.prog X.w X.A.in1 s (.ref c) (.ref e) bs.isEmpty := by
    by_cases hce : c = e
    · subst hce
      have hl := congrArg List.length (I.tuple_inj hc he)
      rw [List.length_map, List.length_map, List.length_append] at hl
      have : bs = [] := List.length_eq_zero_iff.mp (by omega)
      subst this
      exact (SeqAt.EqAt.same _).eqP
    · obtain ⟨us, r1, p1, _⟩ := I.tuple hc
      obtain ⟨ws, r2, p2, _⟩ := I.tuple he
      have e1 := vals_refs r1
      have e2 := vals_refs r2
      subst e1 e2
      refine SeqAt.eqP_refs hce fun E Q' hq' => ?_
      refine SeqAt.RcAt.tuples (e := fun _ => true) p1 p2 (by show X.A.units + 1 < cLine; omega) (fun j h1 h2 => ?_) _ _ _ _ ?_
      · have : ((as ++ bs).map Value.ref).toArray[j] = (as.map Value.ref).toArray[j] := by
          simp at h1
          simp only [List.getElem_toArray, List.getElem_map]
          rw [List.getElem_append_left h1]
        rw [this]
        exact SeqAt.EqAt.same _
      · rw [show ((List.range (min (as.map Value.ref).toArray.size ((as ++ bs).map Value.ref).toArray.size)).all fun _ => true) = true from List.all_eq_true.mpr fun _ _ => rfl]
        have : ((as.map Value.ref).toArray.size == ((as ++ bs).map Value.ref).toArray.size) = bs.isEmpty := by
          cases bs with
          | nil => simp
          | cons b r => simp
        rw [this]
        exact hq'
  show wpAny (model X.prog X.w) X.A (richCompare .Eq _ _) _ _ _
  refine rcP_tups (e := fun j => if j = 0 then (ks.all fun k => decide (f k = g k)) else bs.isEmpty) p1 p2 (by omega) (fun j h1 h2 => ?_) _ _ ?_
  · match j, h1, h2 with
    | 0, _, _ => exact d1
    | 1, _, _ => exact d2
    | j + 2, h, _ => exact absurd h (by simp)
  · show EP X pins σ Q (.bool (((ks.all fun k => decide (f k = g k)) && ((bs.isEmpty) && true)) && true)) s
    rw [Bool.and_true, Bool.and_true]
    exact ⟨.bl _, H, I, rfl, hQ⟩
end
end Bw

/-! #### R11 -/
set_option Elab.async false
set_option linter.all false
set_option maxRecDepth 100000
set_option maxHeartbeats 4000000
/-! rules that the layer lacks, 11: C(..) inside a try, where what is let out may lean on the slots -/
namespace Bw
open PySem PySem.Spec PyProof.Rows L2
section
variable {X : Cx} {CX : CXT} {k : Nat} {f C : Addr} {fd : FuncData} {ps : List Str} {ds : List Value} {dvs : List V} {sp : Sp} {E : L2.St → XK} {x : Str} {p pos : Pos} {e : Expr} {es : List Expr} {t : TA}
theorem run_makeS {pins : List (Addr × Obj)} {σ : L2.St} {H : Hp} {s : Shared} {Q : VK} {us : List Value} {vs : List V} (M : Mk X.K C f) (F : FnOk X.prog X.w X.K X.mg X.base CX k f fd ps sp) (hr : Room (k + 1) X.A) (hb : Binds X.K fd ps ds) (hd : Vals dvs ds)
    (hx : PassesAt CX X σ (E σ)) (I : Inv X pins σ H s) (r : Vals vs us)
    (h : ∀ x dx, H x = none → H dx = none → dx ≠ x → sp (.ref x :: (vs ++ dvs)) (upd (upd H dx (.own x)) x (.ins C dx [])) (fun v H2 => v = .non ∧ Q (.ref x) H2) (E σ)) :
    wpAny (model X.prog X.w) X.A (call (.ref C) us) (EP X pins σ Q) X.xe s := by
  have hq := h (s.heap.objs.size + 1) s.heap.objs.size (I.hok.fresh (Nat.le_succ _)) (I.hok.fresh (Nat.le_refl _)) (Nat.ne_of_lt (Nat.lt_succ_self _))
  have I2 := Inv.made (C := C) I
  have r2 : Vals (V.ref (s.heap.objs.size + 1) :: (vs ++ dvs)) (Value.ref (s.heap.objs.size + 1) :: (us ++ ds)) := .cons rfl (r.append hd)
  have hl : (Value.ref (s.heap.objs.size + 1) :: us ++ ds).length = ps.length := by
    have e := r2.length
    rw [F.len _ _ _ _ hq] at e
    exact e.symm
  refine wpAny_call (make_map (f := f) I.kIn M.makes M.init (beq_iff_eq.mp M.fn) (codeAny_mono (F.run _ X.stack _ _ ⟨Value.ref (s.heap.objs.size + 1) :: us, []⟩ (Value.ref (s.heap.objs.size + 1) :: (us ++ ds)) _ _ (E σ) (hr.make C us [])
    (I2.env0.make C us []) (hb _ (Value.ref (s.heap.objs.size + 1) :: us) I2.kIn hl) r2 hq) fun r s' hq' => ?_))
  cases r with
  | error e => exact hx pins _ _ e s' I2 hq'
  | ok fl =>
    cases fl with
    | ret u =>
      obtain ⟨v, H', I3, rv, ev, q3⟩ := I2.after hq'
      subst ev
      exact ⟨rv, ⟨V.ref (s.heap.objs.size + 1), H', I3, rfl, q3⟩⟩
    | next => exact False.elim hq'
    | brk => exact False.elim hq'
    | cont => exact False.elim hq'
/-- C(..), inside a try -/
def tMakeS (C : Addr) (sp : Sp) (dvs : List V) (E : L2.St → XK) (t : TA) : TE := fun σ H Q => t σ H fun vs H1 => ∀ x dx, H1 x = none → H1 dx = none → dx ≠ x →
  sp (.ref x :: (vs ++ dvs)) (upd (upd H1 dx (.own x)) x (.ins C dx [])) (fun v H2 => v = .non ∧ Q (.ref x) H2) (E σ)
theorem pe_makeS (M : Mk X.K C f) (F : FnOk X.prog X.w X.K X.mg X.base CX k f fd ps sp) (hr : Room (k + 1) X.A) (hg : Gl X x) (hm : X.mg x = some (.ref C)) (hb : Binds X.K fd ps ds) (hd : Vals dvs ds) (hx : ∀ σ, PassesAt CX X σ (E σ))
    (ha : PA X (e :: es) t) (hdb : (x == ("__debug__" : Str)) = false := by decide) (he : starEach (e :: es) X.env = (false, eval e X.env) :: starEach es X.env := by rfl) (hpl : (backTo pos (starEach es X.env)).any (·.1) = false := by rfl) :
    PE X (.Call (.Name x p) (e :: es) [] pos) (tMakeS C sp dvs E t) := by
  refine ⟨fun pins s σ H Q I h => ?_⟩
  refine wpAny_Call_Name_kw (ld_glob I hg hm ?_ hdb)
  refine PySem.W.callWith_K (h₀ := X.base) I.ok.mod.kin M.kp (thn (ha.run pos pins s σ H _ I h) fun us s1 ⟨vs, H1, I1, r, q⟩ => ⟨I1.kIn, ?_⟩) he hpl
  exact run_makeS M F hr hb hd (hx σ) I1 r q
end
end Bw

/-! #### L1 -/
set_option Elab.async false
set_option linter.all false
set_option maxRecDepth 100000
set_option maxHeartbeats 4000000
/-! helpers over the layer -/
namespace Bw
open PySem PySem.Spec PyProof.Rows L2
/-! ### heaps -/
def SameB (D : Addr) (H H' : Hp) : Prop := ∀ b o, b ≠ D → H b = some o → H' b = some o
theorem _root_.L2.Same.b {D : Addr} {H H' : Hp} (h : Same H H') : SameB D H H' := fun b o _ e => h b o e
theorem _root_.L2.Same.upd {H : Hp} {p : Addr} {o : HO} (h : H p = none) : Same H (upd H p o) := fun b u e => by rw [upd_ne (ne_of_none e h)]; exact e
theorem _root_.L2.Same.upd' {H H1 : Hp} {p : Addr} {o : HO} (x : Same H H1) (h : H1 p = none) : Same H (L2.upd H1 p o) := x.trans (Same.upd h)
/-- a store at what was not there at the start -/
theorem _root_.L2.Same.put {H H1 : Hp} {p : Addr} {o : HO} (x : Same H H1) (h : H p = none) : Same H (L2.upd H1 p o) := fun b u e => by rw [upd_ne (ne_of_none e h)]; exact x b u e
theorem _root_.L2.Same.lock {H H' : Hp} {d : Addr} {od : Obj} {u : HO} (x : Same (L2.upd H d (.frz od u)) H') (h : H d = some u) : Same H (L2.upd H' d u) := fun b o e => by
  by_cases hb : b = d
  · subst hb
    rw [upd_same, ← e, h]
  · rw [upd_ne hb]
    exact x b o (by rw [upd_ne hb]; exact e)
theorem _root_.L2.Same.at {H H' : Hp} {a : Addr} {o : HO} (x : Same H H') (h : H a = some o) : H' a = some o := x a o h
/-! ### comprehensions: item by item -/
section
variable {J : It} {n : Nat} {G : Hp → Prop} {Y : Nat → Hp → V → Hp → Prop} {α : Type}
theorem take_filter_succ {yes : α → Bool} {items : List α} {i : Nat} {a : α} (h : items[i]? = some a) : (items.take (i + 1)).filter yes = (items.take i).filter yes ++ (if yes a = true then [a] else []) := by
  rw [List.take_succ, h, List.filter_append]
  congr 1
  show List.filter yes [a] = _
  rw [List.filter_cons]
  rfl
theorem lc_each (w : Walk J n G Y) {g : TG} {tt : TT} {te : TE} {vs : List Nat} {σ : L2.St} {H1 : Hp} {D : Addr} {Qd : Hp → Prop} (items : List α) (hn : items.length = n) (hz : n ≤ sizeLine) (yes : α → Bool) (R : α → V → Hp → Prop)
    (hR : ∀ a v H H' us us', H D = some (.lst us) → H' D = some (.lst us') → SameB D H H' → R a v H → R a v H') (hD : H1 D = none) (hG : ∀ H, Same H1 H → G H)
    (hs : ∀ i a x H H' acc (N : Hp → Prop), items[i]? = some a → Same H1 H → H D = some (.lst acc) → acc.length < sizeLine → Y i H x H' → (yes a = true → ∀ y H4, Same H H4 → R a y H4 → N (L2.upd H4 D (.lst (acc ++ [y])))) → (yes a = false → ∀ H3, Same H H3 → N H3) →
      g x (wipe σ vs) H' fun σ2 H2 => wipe σ2 vs = wipe σ vs ∧ tt σ2 H2 fun b H3 => if b = true then te σ2 H3 fun y H4 => ∃ acc, H4 D = some (.lst acc) ∧ acc.length < sizeLine ∧ N (L2.upd H4 D (.lst (acc ++ [y]))) else N H3)
    (hd : ∀ H us, Same H1 H → H D = some (.lst us) → Paired (fun a v => R a v H) (items.filter yes) us → Qd H) :
    ∃ W : Nat → Nat → Hp → Prop, (∃ m, W 0 m (L2.upd H1 D (.lst []))) ∧ ∀ i m H, W i m H →
      (J.stop i H ∧ Qd H) ∨ (J.go i H ∧ ∃ Nx : Hp → Prop, (∀ H', Nx H' → ∃ m', m' < m ∧ W (i + 1) m' H') ∧ ∀ x H', J.yld i H x H' → g x (wipe σ vs) H' fun σ2 H2 => wipe σ2 vs = wipe σ vs ∧ tt σ2 H2 fun b H3 =>
        if b = true then te σ2 H3 fun y H4 => ∃ acc, H4 D = some (.lst acc) ∧ acc.length < sizeLine ∧ Nx (L2.upd H4 D (.lst (acc ++ [y]))) else Nx H3) := by
  subst hn
  refine lc_it w (fun i H => Same H1 H ∧ ∃ us, H D = some (.lst us) ∧ us.length ≤ i ∧ Paired (fun a v => R a v H) ((items.take i).filter yes) us) ⟨Same.upd hD, [], upd_same, Nat.le_refl _, by rw [List.take_zero]; exact .nil⟩ (fun i H _ h => hG H h.1) ?_ ?_
  · rintro i x H H' hi ⟨s, us, hDs, hul, hp⟩ hy
    have ha : items[i]? = some items[i] := List.getElem?_eq_getElem hi
    refine hs i items[i] x H H' us _ ha s hDs (by omega) hy (fun hyes y H4 s4 r4 => ?_) (fun hno H3 s3 => ?_)
    · refine ⟨Same.put (s.trans s4) hD, us ++ [y], upd_same, by rw [List.length_append, List.length_singleton]; omega, ?_⟩
      rw [take_filter_succ ha, if_pos hyes]
      have k : ∀ a v, R a v H4 → R a v (L2.upd H4 D (.lst (us ++ [y]))) := fun a v => hR a v _ _ us (us ++ [y]) (s4 _ _ hDs) upd_same (fun b o hb e => by rw [upd_ne hb]; exact e)
      refine Paired.snoc (Paired.mapP hp fun a v r => k a v (hR a v _ _ us us hDs (s4 _ _ hDs) (Same.b s4) r)) (k _ _ r4)
    · refine ⟨s.trans s3, us, s3 _ _ hDs, by omega, ?_⟩
      rw [take_filter_succ ha, if_neg (by rw [hno]; exact Bool.false_ne_true), List.append_nil]
      exact Paired.mapP hp fun a v r => hR a v _ _ us us hDs (s3 _ _ hDs) (Same.b s3) r
  · rintro H ⟨s, us, hDs, _, hp⟩
    rw [List.take_length] at hp
    exact hd H us s hDs hp
theorem paired_map {F : α → V} {P : α → Hp → Prop} {H : Hp} : ∀ {l : List α} {us : List V}, Paired (fun a v => v = F a ∧ P a H) l us → us = l.map F
  | _, _, .nil => rfl
  | _, _, .cons h t => by rw [h.1, paired_map t]; rfl
theorem paired_eq {F : α → V} : ∀ {l : List α} {us : List V}, Paired (fun a v => v = F a) l us → us = l.map F
  | _, _, .nil => rfl
  | _, _, .cons h t => by rw [show _ = F _ from h, paired_eq t]; rfl
theorem paired_get {β : Type} {F : α → β → Prop} : ∀ {l : List α} {m : List β}, Paired F l m → ∀ {i : Nat} {a : α}, l[i]? = some a → ∃ b, m[i]? = some b ∧ F a b
  | _, _, .nil, _, _, h => by simp at h
  | _, _, .cons h t, 0, _, e => by
    simp at e
    subst e
    exact ⟨_, rfl, h⟩
  | _, _, .cons h t, i + 1, a, e => by
    simp at e
    obtain ⟨b, hb, f⟩ := paired_get t e
    exact ⟨b, by simpa using hb, f⟩
theorem paired_get' {β : Type} {F : α → β → Prop} : ∀ {l : List α} {m : List β}, Paired F l m → ∀ {i : Nat} {b : β}, m[i]? = some b → ∃ a, l[i]? = some a ∧ F a b
  | _, _, .nil, _, _, h => by simp at h
  | _, _, .cons h t, 0, _, e => by
    simp at e
    subst e
    exact ⟨_, rfl, h⟩
  | _, _, .cons h t, i + 1, a, e => by
    simp at e
    obtain ⟨b, hb, f⟩ := paired_get' t e
    exact ⟨b, by simpa using hb, f⟩
end
/-! ### wires, moves, texts in the heap -/
abbrev WireS := Wire Str
def wtup (w : WireS) : List V := [.str w.1, .str w.2.1, .int w.2.2]
def WiresAt (H : Hp) (as : List Addr) (ws : List WireS) : Prop := Paired (fun a w => H a = some (.tup (wtup w))) as ws
theorem WiresAt.mono {H H' : Hp} {as : List Addr} {ws : List WireS} (s : Same H H') (h : WiresAt H as ws) : WiresAt H' as ws := Paired.mapP h fun a w e => s _ _ e
theorem WiresAt.monoB {D : Addr} {H H' : Hp} {as : List Addr} {ws : List WireS} {us : List V} (s : SameB D H H') (hD : H D = some (.lst us)) (h : WiresAt H as ws) : WiresAt H' as ws := Paired.mapP h fun a w e => s _ _ (ne_of e hD (by intro z; cases z)) e
def ptup (e : Str × Str) : List V := [.str e.1, .str e.2]
def PairsAt (H : Hp) (as : List Addr) (es : List (Str × Str)) : Prop := Paired (fun a e => H a = some (.tup (ptup e))) as es
theorem PairsAt.mono {H H' : Hp} {as : List Addr} {es : List (Str × Str)} (s : Same H H') (h : PairsAt H as es) : PairsAt H' as es := Paired.mapP h fun a w e => s _ _ e
/-- a dict of moves -/
def MovesAt (H : Hp) (a : Addr) (mv : Str → Int) : Prop := ∃ kvs, H a = some (.dK kvs) ∧ ∀ k, (valV kvs (Sum.inr k)).getD (.int 0) = .int (mv k)
theorem MovesAt.mono {H H' : Hp} {a : Addr} {mv : Str → Int} (s : Same H H') (h : MovesAt H a mv) : MovesAt H' a mv := by
  obtain ⟨kvs, e, h⟩ := h
  exact ⟨kvs, s _ _ e, h⟩
theorem MovesAt.nil {H : Hp} {a : Addr} (h : H a = some (.dK [])) : MovesAt H a fun _ => 0 := ⟨[], h, fun _ => rfl⟩
/-- ints by a function -/
theorem valV_DI_none {ks : List Str} {f : Str → Int} {k : Str} (h : k ∉ ks) : valV (DI ks f) (Sum.inr k) = none := by
  induction ks with
  | nil => rfl
  | cons a r ih =>
    have ha : ¬ (a = k) := fun e => h (by rw [e]; exact List.mem_cons_self)
    unfold DI at ih ⊢
    rw [List.map_cons, valV_neg (fun e => ha (Sum.inr.inj e))]
    exact ih fun m => h (List.mem_cons_of_mem _ m)
theorem MovesAt.DI {H : Hp} {a : Addr} {ks : List Str} {f : Str → Int} (h : H a = some (.dK (DI ks f))) : MovesAt H a fun k => if k ∈ ks then f k else 0 := ⟨_, h, fun k => by
  by_cases m : k ∈ ks
  · rw [valV_DI m]
    show V.int (f k) = V.int (if k ∈ ks then f k else 0)
    rw [if_pos m]
  · rw [valV_DI_none m]
    show V.int 0 = V.int (if k ∈ ks then f k else 0)
    rw [if_neg m]⟩
theorem put_DI {ks : List Str} {f : Str → Int} {k : Str} {v : Int} (h : k ∈ ks) : putK (DI ks f) (Sum.inr k) (.int v) = DI ks (updf f k v) := by
  have ha : ((DI ks f).any fun kv => decide (kv.1 = Sum.inr k)) = true := by
    rw [valV_any, valV_DI h]; rfl
  unfold putK
  rw [if_pos ha]
  unfold DI
  rw [List.map_map]
  refine List.map_congr_left fun x _ => ?_
  show (if (Sum.inr x : Key) = Sum.inr k then ((Sum.inr x : Key), V.int v) else (Sum.inr x, V.int (f x))) = (Sum.inr x, V.int (updf f k v x))
  by_cases e : x = k
  · subst e
    rw [if_pos rfl, updf_same]
  · rw [if_neg (fun q => e (Sum.inr.inj q)), updf_ne e]
theorem DI_length {ks : List Str} {f : Str → Int} : (DI ks f).length = ks.length := by unfold DI; rw [List.length_map]
theorem DI_congr {ks : List Str} {f g : Str → Int} (h : ∀ k ∈ ks, f k = g k) : DI ks f = DI ks g := by
  unfold DI
  exact List.map_congr_left fun k hk => by rw [h k hk]
theorem get_DI {H : Hp} {a : Addr} {ks : List Str} {f : Str → Int} {k : Str} (h : H a = some (.dK (DI ks f))) (m : k ∈ ks) : DGet H a (.str k) (some (.int (f k))) := by
  have q := DGet.k (k := Sum.inr k) h
  rw [valV_DI m] at q
  exact q
theorem get_DIf {H : Hp} {a : Addr} {od : Obj} {ks : List Str} {f : Str → Int} {k : Str} (h : H a = some (.frz od (.dK (DI ks f)))) (m : k ∈ ks) : DGet H a (.str k) (some (.int (f k))) :=
  .inl ⟨DI ks f, Sum.inr k, .inr ⟨od, h⟩, rfl, (valV_DI m).symm⟩
end Bw

/-! #### L1b -/
set_option Elab.async false
set_option linter.all false
set_option maxRecDepth 100000
set_option maxHeartbeats 4000000
namespace Bw
open PySem PySem.Spec PyProof.Rows L2
theorem putK_le {κ : Type} [DecidableEq κ] (c : List (κ × V)) (k : κ) (x : V) : (putK c k x).length ≤ c.length + 1 := by
  unfold putK
  by_cases h : (c.any fun kv => decide (kv.1 = k)) = true
  · rw [if_pos h, List.length_map]
    exact Nat.le_succ _
  · rw [if_neg h, List.length_append]
    exact Nat.le_refl _
section
variable {J : It} {n : Nat} {G : Hp → Prop} {Y : Nat → Hp → V → Hp → Prop} {α : Type}
/-- what a dict comprehension makes -/
def putAll (key : α → Key) (val : α → V) (l : List α) : List (Key × V) := l.foldl (fun kvs a => putK kvs (key a) (val a)) []
theorem putAll_snoc {key : α → Key} {val : α → V} {l : List α} {a : α} : putAll key val (l ++ [a]) = putK (putAll key val l) (key a) (val a) := by
  unfold putAll
  rw [List.foldl_append]
  rfl
theorem dc_each (w : Walk J n G Y) {g : TG} {tt : TT} {tk tv : TE} {vs : List Nat} {σ : L2.St} {H1 : Hp} {D : Addr} {Qd : Hp → Prop} (items : List α) (hn : items.length = n) (hz : n ≤ sizeLine) (yes : α → Bool) (key : α → Key) (val : α → V)
    (hD : H1 D = none) (hG : ∀ H, Same H1 H → G H)
    (hs : ∀ i a x H H' kvs (N : Hp → Prop), items[i]? = some a → Same H1 H → H D = some (.dK kvs) → kvs.length < sizeLine → Y i H x H' → (yes a = true → ∀ H5, Same H H5 → N (L2.upd H5 D (.dK (putK kvs (key a) (val a))))) → (yes a = false → ∀ H3, Same H H3 → N H3) →
      g x (wipe σ vs) H' fun σ2 H2 => wipe σ2 vs = wipe σ vs ∧ tt σ2 H2 fun b H3 => if b = true then tk σ2 H3 fun y H4 => tv σ2 H4 fun z H5 => ∃ kvs k, y = kV k ∧ H5 D = some (.dK kvs) ∧ kvs.length < sizeLine ∧ N (L2.upd H5 D (.dK (putK kvs k z))) else N H3)
    (hd : ∀ H, Same H1 H → H D = some (.dK (putAll key val (items.filter yes))) → Qd H) :
    ∃ W : Nat → Nat → Hp → Prop, (∃ m, W 0 m (L2.upd H1 D (.dK []))) ∧ ∀ i m H, W i m H →
      (J.stop i H ∧ Qd H) ∨ (J.go i H ∧ ∃ Nx : Hp → Prop, (∀ H', Nx H' → ∃ m', m' < m ∧ W (i + 1) m' H') ∧ ∀ x H', J.yld i H x H' → g x (wipe σ vs) H' fun σ2 H2 => wipe σ2 vs = wipe σ vs ∧ tt σ2 H2 fun b H3 =>
        if b = true then tk σ2 H3 fun y H4 => tv σ2 H4 fun z H5 => ∃ kvs k, y = kV k ∧ H5 D = some (.dK kvs) ∧ kvs.length < sizeLine ∧ Nx (L2.upd H5 D (.dK (putK kvs k z))) else Nx H3) := by
  subst hn
  refine ⟨fun i m H => m = items.length - i ∧ i ≤ items.length ∧ Same H1 H ∧ ∃ kvs, H D = some (.dK kvs) ∧ kvs.length ≤ i ∧ kvs = putAll key val ((items.take i).filter yes),
    ⟨items.length, by simp, Nat.zero_le _, Same.upd hD, [], upd_same, Nat.le_refl _, by rw [List.take_zero]; rfl⟩, ?_⟩
  rintro i m H ⟨rfl, hi, s, kvs, hDs, hkl, hp⟩
  have q := hG H s
  by_cases hlt : i < items.length
  · refine .inr ⟨w.goes i H hlt q, fun H' => i + 1 ≤ items.length ∧ Same H1 H' ∧ ∃ kvs, H' D = some (.dK kvs) ∧ kvs.length ≤ i + 1 ∧ kvs = putAll key val ((items.take (i + 1)).filter yes), fun H' p' => ⟨items.length - (i + 1), by omega, rfl, p'⟩, fun x H' y => ?_⟩
    have ha : items[i]? = some items[i] := List.getElem?_eq_getElem hlt
    refine hs i items[i] x H H' kvs _ ha s hDs (by omega) (w.yields i H x H' hlt q y) (fun hyes H5 s5 => ?_) (fun hno H3 s3 => ?_)
    · refine ⟨hlt, (s.trans s5).put hD, _, upd_same, Nat.le_trans (putK_le _ _ _) (Nat.succ_le_succ hkl), ?_⟩
      rw [take_filter_succ ha, if_pos hyes, putAll_snoc, hp]
    · refine ⟨hlt, s.trans s3, kvs, s3 _ _ hDs, by omega, ?_⟩
      rw [take_filter_succ ha, if_neg (by rw [hno]; exact Bool.false_ne_true), List.append_nil]
      exact hp
  · have e : i = items.length := by omega
    subst e
    refine .inl ⟨w.stops H q, hd H s ?_⟩
    rw [hDs, hp, List.take_length]
theorem putK_isSome {kvs : List (Key × V)} {k k' : Key} {v : V} : (valV (putK kvs k v) k').isSome = (decide (k' = k) || (valV kvs k').isSome) := by
  rw [← valV_any, ← valV_any]
  unfold putK
  by_cases h : (kvs.any fun kv => decide (kv.1 = k)) = true
  · rw [if_pos h, List.any_map]
    have : (kvs.any ((fun kv => decide (kv.1 = k')) ∘ fun kv => if kv.1 = k then (kv.1, v) else kv)) = kvs.any fun kv => decide (kv.1 = k') := by
      congr 1
      funext kv
      show decide ((if kv.1 = k then (kv.1, v) else kv).1 = k') = _
      by_cases e : kv.1 = k
      · rw [if_pos e]
      · rw [if_neg e]
    rw [this]
    by_cases e : k' = k
    · subst e
      rw [h, decide_eq_true rfl]
      rfl
    · rw [decide_eq_false e]
      rfl
  · rw [if_neg h, List.any_append]
    show (_ || (decide (k = k') || false)) = _
    rw [Bool.or_false, Bool.or_comm]
    congr 1
    exact decide_eq_decide.mpr ⟨fun e => e.symm, fun e => e.symm⟩
theorem putAll_isSome {key : α → Key} {val : α → V} {k : Key} : ∀ (l : List α), (valV (putAll key val l) k).isSome = l.any fun a => decide (k = key a) := by
  intro l
  unfold putAll
  have go : ∀ (l : List α) (kvs : List (Key × V)), (valV (l.foldl (fun kvs a => putK kvs (key a) (val a)) kvs) k).isSome = ((valV kvs k).isSome || l.any fun a => decide (k = key a)) := by
    intro l
    induction l with
    | nil => intro kvs; simp
    | cons a r ih =>
      intro kvs
      rw [List.foldl_cons, ih, putK_isSome, List.any_cons]
      cases decide (k = key a) <;> cases (valV kvs k).isSome <;> rfl
  rw [go]
  rfl
theorem putAll_new {key : α → Key} {val : α → V} : ∀ {l : List α}, (l.map key).Nodup → putAll key val l = l.map fun a => (key a, val a) := by
  intro l
  unfold putAll
  have go : ∀ (l : List α) (kvs : List (Key × V)), (kvs.map (·.1) ++ l.map key).Nodup → l.foldl (fun kvs a => putK kvs (key a) (val a)) kvs = kvs ++ l.map fun a => (key a, val a) := by
    intro l
    induction l with
    | nil => intro kvs _; simp
    | cons a r ih =>
      intro kvs h
      rw [List.foldl_cons]
      have h2 : ¬ ((kvs.any fun kv => decide (kv.1 = key a)) = true) := by
        intro q
        obtain ⟨kv, m, e⟩ := List.any_eq_true.mp q
        have e' := of_decide_eq_true e
        rw [List.map_cons] at h
        have := (List.nodup_append.mp h).2.2 (key a) (by rw [← e']; exact List.mem_map_of_mem m) (key a) List.mem_cons_self
        exact this rfl
      have e : putK kvs (key a) (val a) = kvs ++ [(key a, val a)] := by
        unfold putK
        rw [if_neg h2]
      rw [e, ih]
      · simp
      · simpa using h
  intro h
  rw [go l [] (by simpa using h)]
  simp
end
theorem tTest_mono {t : TE} (ht : ∀ σ H Q Q', (∀ v H1, Q v H1 → Q' v H1) → t σ H Q → t σ H Q') : ∀ σ H Q Q', (∀ b H1, Q b H1 → Q' b H1) → tTest t σ H Q → tTest t σ H Q' := fun σ H Q Q' h z => ht σ H _ _ (fun v H1 ⟨k, e, q⟩ => ⟨k, e, h _ _ q⟩) z
end Bw
namespace Bw
open PySem PySem.Spec PyProof.Rows L2
theorem refs_of {α : Type} {c : α → List V} {H : Hp} : ∀ {l : List α} {us : List V}, Paired (fun a v => ∃ p, v = V.ref p ∧ H p = some (.tup (c a))) l us → ∃ as : List Addr, us = as.map V.ref ∧ Paired (fun p a => H p = some (.tup (c a))) as l
  | _, _, .nil => ⟨[], rfl, .nil⟩
  | _, _, .cons ⟨p, e, h⟩ t => by
    obtain ⟨as, e2, h2⟩ := refs_of t
    exact ⟨p :: as, by rw [e, e2]; rfl, .cons h h2⟩
theorem tup_stays {D p : Addr} {H H' : Hp} {us : List V} {xs : List V} (hD : H D = some (.lst us)) (s : SameB D H H') (h : H p = some (.tup xs)) : H' p = some (.tup xs) := s _ _ (ne_of h hD (by intro z; cases z)) h
theorem ref_get {as : List Addr} {i : Nat} {x : V} (h : (as.map V.ref)[i]? = some x) : ∃ a, as[i]? = some a ∧ x = .ref a := by
  rw [List.getElem?_map] at h
  cases e : as[i]? with
  | none => rw [e] at h; cases h
  | some a => rw [e] at h; exact ⟨a, rfl, (Option.some.inj h).symm⟩
/-- the length of the list in slot i -/
def lenAt (i : Nat) (σ : L2.St) (H : Hp) : Nat :=
  match σ[i]? with
  | some (some (.ref a)) => match H a with
    | some (.lst xs) => xs.length
    | _ => 0
  | _ => 0
end Bw
namespace Bw
open PySem PySem.Spec PyProof.Rows L2
/-- the targets (x, y), (x, y, z) by their slots -/
abbrev g2 (K : PySem.W.Frag) (i j : Nat) : TG := gTup K 2 (gCons (gName i) (gCons (gName j) gNil))
abbrev g3 (K : PySem.W.Frag) (i j k : Nat) : TG := gTup K 3 (gCons (gName i) (gCons (gName j) (gCons (gName k) gNil)))
end Bw

/-! #### D0 -/
set_option Elab.async false
set_option linter.all false
set_option maxRecDepth 100000
set_option maxHeartbeats 4000000
/-! the text by places, and what the promises lean on -/
namespace Bw
open PySem PySem.Spec PyProof.Rows L2
def top (i : Nat) : Stmt := PySem.Challenge.pw_beatwires_k11_whole_plans.main.body.getD i (.Pass ⟨0, 0, 0, 0⟩)
abbrev sIsNum : Stmt := top 7
abbrev sIsWord : Stmt := top 8
abbrev sPInit : Stmt := inClass (top 9) 0
abbrev sPEq : Stmt := inClass (top 9) 1
abbrev sRegs : Stmt := inClass (top 9) 2
abbrev sBeat : Stmt := inClass (top 9) 3
abbrev sRingIn : Stmt := top 10
abbrev sWInit : Stmt := inClass (top 12) 0
abbrev sExtend : Stmt := inClass (top 12) 1
abbrev sLimits : Stmt := inClass (top 12) 2
abbrev sPlaced : Stmt := top 13
abbrev sCheck : Stmt := top 14
abbrev sWithBeat : Stmt := top 15
abbrev sDraw : Stmt := top 17
abbrev sLPlan : Stmt := top 18
abbrev sLBeat : Stmt := top 19
abbrev sLRing : Stmt := top 20
abbrev sLRefused : Stmt := top 21
abbrev sLaw : Stmt := top 22
/-- the built-ins that no name of the module hides -/
structure Bt (mg : Str → Option Value) : Prop where
  isinstance : mg "isinstance" = none
  int : mg "int" = none
  bool : mg "bool" = none
  str : mg "str" = none
  len : mg "len" = none
  all : mg "all" = none
  list : mg "list" = none
  dict : mg "dict" = none
  tuple : mg "tuple" = none
  sorted : mg "sorted" = none
  max : mg "max" = none
  min : mg "min" = none
  zip : mg "zip" = none
  range : mg "range" = none
  enumerate : mg "enumerate" = none
  reversed : mg "reversed" = none
end Bw

/-! #### D1 -/
set_option Elab.async false
set_option linter.all false
set_option maxRecDepth 100000
set_option maxHeartbeats 4000000
namespace Bw
open PySem PySem.Spec PyProof.Rows L2
section
variable {P : Program} {w : World} {K : PySem.W.Frag} {mg : Str → Option Value} {base : Heap}
/-! ### is_number -/
/-- what is looked at: an int, a bool, nothing -/
def isNum : V → Bool
  | .int _ => true
  | _ => false
def Plain : V → Prop
  | .int _ => True
  | .bl _ => True
  | .non => True
  | _ => False
def spIsNum : Sp := fun vs H Q _ => ∃ x, vs = [x] ∧ Plain x ∧ Q (.bl (isNum x)) H
theorem scIsNum : FnScope ["thing"] ["thing"] (defScope sIsNum) := ⟨rfl, rfl, rfl, by decide +kernel, rfl, by decide +kernel, by decide +kernel⟩
theorem ok_isNum {f : Addr} {fd : FuncData} (F : Fun K "is_number" "is_number" sIsNum f fd) (B : Bt mg) : FnOk P w K mg base CX0 1 f fd ["thing"] spIsNum := by
  refine F.ok scIsNum (fun vs H Q E h => ?_) (fun cdv A outer s H vs Q E hr h => ?_)
  · obtain ⟨x, rfl, _⟩ := h
    rfl
  · obtain ⟨x, rfl, px, k⟩ := h
    refine ⟨_, pss_one (ps_ret (pe_and (pe_callB call_isi (by rfl) B.isinstance (by decide +kernel) (pa_cons (pv 0) (pa_cons (pe_bltn (v := .ty "int") rfl B.int (by decide +kernel) rfl) pa_nil)))
      (pe_one (pe_not (pe_callB call_isi (by rfl) B.isinstance (by decide +kernel) (pa_cons (pv 0) (pa_cons (pe_bltn (v := .ty "bool") rfl B.bool (by decide +kernel) rfl) pa_nil))))))), ?_⟩
    cases x with
    | int i => exact ⟨_, rfl, _, _, _, _, true, rfl, .ty _, .base (.int _), kit_ty (by decide +kernel), _, rfl, iteT ⟨_, rfl, _, _, _, _, false, rfl, .ty _, .base (.int _), kit_ty (by decide +kernel), _, rfl, k⟩⟩
    | bl b => exact ⟨_, rfl, _, _, _, _, true, rfl, .ty _, .base (.bl _), kit_ty (by decide +kernel), _, rfl, iteT ⟨_, rfl, _, _, _, _, true, rfl, .ty _, .base (.bl _), kit_ty (by decide +kernel), _, rfl, k⟩⟩
    | non => exact ⟨_, rfl, _, _, _, _, false, rfl, .ty _, .base .non, kit_ty (by decide +kernel), _, rfl, iteF k⟩
    | _ => exact False.elim px
/-! ### is_word -/
def signOk (c : Nat) : Bool := if (!decide (([c] : List Nat) < ("a" : Str).cps.toList)) = true then !decide (("z" : Str).cps.toList < ([c] : List Nat)) else false
def isWord (z : Str) : Bool := decide (1 ≤ (z.length : Int)) && decide ((z.length : Int) ≤ 8) && z.cps.toList.all signOk
def spIsWord : Sp := fun vs H Q _ => ∃ z, vs = [.str z] ∧ z.length ≤ 1000 ∧ ∀ H', Same H H' → Q (.bl (isWord z)) H'
theorem scIsWord : FnScope ["thing", "sign"] ["thing"] (defScope sIsWord) := ⟨rfl, rfl, rfl, by decide +kernel, rfl, by decide +kernel, by decide +kernel⟩
theorem ok_isWord {f : Addr} {fd : FuncData} (F : Fun K "is_word" "is_word" sIsWord f fd) (B : Bt mg) : FnOk P w K mg base CX0 1 f fd ["thing"] spIsWord := by
  refine F.ok scIsWord (fun vs H Q E h => ?_) (fun cdv A outer s H vs Q E hr h => ?_)
  · obtain ⟨x, rfl, _⟩ := h
    rfl
  · obtain ⟨z, rfl, hz, k⟩ := h
    refine ⟨_, pss_cons (ps_if (pw_or (pt_not (pt_val (pe_callB call_isi (by rfl) B.isinstance (by decide +kernel) (pa_cons (pv 0) (pa_cons (pe_bltn (v := .ty "str") (by rfl) B.str (by decide +kernel) rfl) pa_nil)))))
        (pw_or1 (pt_not (pt_chain op_le op_le pe_int (pe_callB call_len_str (by rfl) B.len PySem.boot_len (pa_cons (pv 0) pa_nil)) pe_int)))).pt (pss_one (ps_ret pe_bl)) pss_nil)
      (pss_one (ps_ret (pe_callB (cr_all rfl) (by rfl) B.all (by decide +kernel) (pa_cons (pe_lc (own := [("sign", 1)]) (g := gName 1) (tt := tYes) rfl scIsWord.nd (pi_str (pv 0)) (blkOk_by (N := ["thing", "sign"]) (sc := defScope sIsWord) (by decide +kernel))
        (fun _ _ _ _ _ => pg_name (i := 1) scIsWord.nd rfl (Or.inl rfl)) (fun _ _ _ _ _ => pts_nil) (fun _ _ _ _ _ => pe_chain op_le_str op_le_str pe_str (pv 1) pe_str)) pa_nil)))), ?_⟩
    refine ⟨_, rfl, _, _, _, _, true, rfl, .ty _, .base (.str _), kit_ty (by decide +kernel), _, rfl, iteF ?_⟩
    refine ⟨_, rfl, z, rfl, Nat.le_trans hz (by decide), _, _, rfl, rfl, _, rfl, ?_⟩
    by_cases h1 : (1 : Int) ≤ (z.length : Int)
    · rw [decide_eq_true h1]
      refine iteT ⟨_, _, rfl, rfl, _, rfl, ?_⟩
      by_cases h2 : (z.length : Int) ≤ 8
      · rw [decide_eq_true h2]
        refine iteF ?_
        refine ⟨_, rfl, z, rfl, fun D hD => lc_each walk_str z.cps.toList (by simp) (by show z.length ≤ _; exact Nat.le_trans hz (by decide)) (fun _ => true) (fun c v _ => v = .bl (signOk c)) (fun _ _ _ _ _ _ _ _ _ r => r) hD (fun _ _ => True.intro) ?_ ?_⟩
        · rintro i c x H1 H' acc N hi s hDa hl ⟨rfl, c', hc', rfl⟩ hy hn
          have ec : c' = c := by
            rw [← Array.getElem?_toList, hi] at hc'
            exact (Option.some.inj hc').symm
          subst ec
          refine ⟨rfl, _, rfl, _, _, rfl, rfl, _, rfl, ?_⟩
          by_cases h3 : ([c'] : List Nat) < ("a" : Str).cps.toList
          · rw [decide_eq_true h3]
            refine iteF ⟨acc, hDa, hl, hy rfl _ _ (Same.refl _) ?_⟩
            unfold signOk
            rw [decide_eq_true h3]
            rfl
          · rw [decide_eq_false h3]
            refine iteT ⟨_, _, rfl, rfl, acc, hDa, hl, hy rfl _ _ (Same.refl _) ?_⟩
            unfold signOk
            rw [decide_eq_false h3]
            rfl
        · intro H1 us s hDa hp
          have e := paired_eq hp
          subst e
          refine ⟨D, z.cps.toList.map signOk, rfl, ?_, ?_⟩
          · refine .inl (.inl ?_)
            rw [hDa, List.filter_eq_self.mpr fun _ _ => rfl, List.map_map]
            rfl
          · have q := k H1 s
            have e2 : isWord z = (z.cps.toList.map signOk).all id := by
              unfold isWord
              rw [decide_eq_true h1, decide_eq_true h2, List.all_map]
              rfl
            rw [e2] at q
            exact q
      · rw [decide_eq_false h2]
        refine iteT ?_
        have q := k H (Same.refl _)
        have e2 : isWord z = false := by
          unfold isWord
          rw [decide_eq_false h2, Bool.and_false]
          rfl
        rw [e2] at q
        exact q
    · rw [decide_eq_false h1]
      refine iteF ⟨_, rfl, ?_⟩
      have q := k H (Same.refl _)
      have e2 : isWord z = false := by
        unfold isWord
        rw [decide_eq_false h1]
        rfl
      rw [e2] at q
      exact q
end
end Bw

/-! #### D2 -/
set_option Elab.async false
set_option linter.all false
set_option maxRecDepth 100000
set_option maxHeartbeats 4000000
namespace Bw
open PySem PySem.Spec PyProof.Rows L2
section
variable {P : Program} {w : World} {K : PySem.W.Frag} {mg : Str → Option Value} {base : Heap}
def spRing (K : PySem.W.Frag) : Sp := fun vs H Q _ => ∃ (b : Addr) (as : List Addr) (es : List (Str × Str)), vs = [.ref b] ∧ SqL K H b (as.map V.ref) ∧ PairsAt H as es ∧ es.length ≤ 1000 ∧ ∀ H', Same H H' → Q (.bl (ring (inner ("out" : Str) es))) H'
abbrev nRing : List Str := ["bare", "rest", "heads", "late", "here", "there"]
theorem scRing : FnScope nRing ["bare"] (defScope sRingIn) := ⟨rfl, rfl, rfl, by decide +kernel, rfl, by decide +kernel, by decide +kernel⟩
def yesK (e : Str × Str) : Bool := if (!decide (V.str e.1 = V.str "out")) = true then !decide (V.str e.2 = V.str "out") else false
def keep (es : List (Str × Str)) : List (Str × Str) := es.filter yesK
theorem keep_inner (es : List (Str × Str)) : keep es = inner ("out" : Str) es := by
  unfold keep inner
  congr 1
  funext e
  unfold yesK
  by_cases h1 : e.1 = "out"
  · simp [h1]
  · by_cases h2 : e.2 = "out"
    · simp [h1, h2]
    · simp [h1, h2]
theorem heads_isSome (es : List (Str × Str)) (x : Str) : (valV (putAll (fun e : Str × Str => (Sum.inr e.2 : Key)) (fun _ => V.bl true) es) (Sum.inr x)).isSome = decide (x ∈ heads es) := by
  rw [putAll_isSome]
  rw [Bool.eq_iff_iff, List.any_eq_true, decide_eq_true_iff]
  unfold heads
  rw [List.mem_map]
  constructor
  · rintro ⟨e, m, h⟩
    exact ⟨e, m, (Sum.inr.inj (of_decide_eq_true h)).symm⟩
  · rintro ⟨e, m, h⟩
    exact ⟨e, m, decide_eq_true (by rw [h])⟩
theorem ok_ring {f : Addr} {fd : FuncData} (F : Fun K "ring_in" "ring_in" sRingIn f fd) (B : Bt mg) (hO : ∃ t, mg "OUT" = some (.str "out" t)) : FnOk P w K mg base CX0 1 f fd ["bare"] (spRing K) := by
  obtain ⟨tO, hO⟩ := hO
  refine F.ok scRing (fun vs H Q E h => ?_) (fun cdv A outer s H vs Q E hr h => ?_)
  · obtain ⟨b, as, es, rfl, _⟩ := h
    rfl
  · obtain ⟨b, as, es, rfl, hb, hp, hl, k⟩ := h
    have hu := hu_of hr
    have hu1 := Nat.lt_of_succ_lt hu
    refine ⟨_, pss_cons (ps_setLc (i := 1) (own := [("here", 4), ("there", 5)]) (g := g2 K 4 5) rfl scRing.nd rfl rfl (sw_true rfl rfl rfl (by decide +kernel)) (pi_list (pv 0)) (blkOk_by (N := nRing) (sc := defScope sRingIn) (by decide +kernel))
        (fun _ _ _ _ _ => by exact pg_tup rfl (pgs_cons (pg_name (i := 4) scRing.nd rfl (Or.inl rfl)) (pgs_cons (pg_name (i := 5) scRing.nd rfl (Or.inl rfl)) pgs_nil)))
        (fun _ _ _ _ _ => by exact pts_one (pw_and (pt_cmpR op_ne (pv 4) (pe_glob (v := .str "out") (by rfl) hO ⟨_, rfl⟩) (nomark _)) (pw_and1 (pt_cmpR op_ne (pv 5) (pe_glob (v := .str "out") (by rfl) hO ⟨_, rfl⟩) (nomark _)))).pt)
        (fun _ _ _ _ _ => pe_tup (pa_cons (pv 4) (pa_cons (pv 5) pa_nil))))
      (pss_cons (ps_while PassesOwn.never (pt_cmpR (op_neNilL hu1) (pv 1) (pe_lst pa_nil) (nomark _))
        (pss_cons (ps_set (i := 2) scRing.nd rfl (Or.inr rfl) (pe_dc (own := [("here", 4), ("there", 5)]) (g := g2 K 4 5) rfl scRing.nd (pi_list (pv 1)) (blkOk_by (N := nRing) (sc := defScope sRingIn) (by decide +kernel))
          (fun _ _ _ _ _ => by exact pg_tup rfl (pgs_cons (pg_name (i := 4) scRing.nd rfl (Or.inl rfl)) (pgs_cons (pg_name (i := 5) scRing.nd rfl (Or.inl rfl)) pgs_nil)))
          (fun _ _ _ _ _ => pts_nil) (fun _ _ _ _ _ => pv 5) (fun _ _ _ _ _ => pe_bl)))
        (pss_cons (ps_setLc (i := 3) (own := [("here", 4), ("there", 5)]) (g := g2 K 4 5) rfl scRing.nd rfl rfl (sw_true rfl rfl rfl (by decide +kernel)) (pi_list (pv 1)) (blkOk_by (N := nRing) (sc := defScope sRingIn) (by decide +kernel))
          (fun _ _ _ _ _ => by exact pg_tup rfl (pgs_cons (pg_name (i := 4) scRing.nd rfl (Or.inl rfl)) (pgs_cons (pg_name (i := 5) scRing.nd rfl (Or.inl rfl)) pgs_nil)))
          (fun _ _ _ _ _ => by exact pts_one (pt_cmp (pc_din hu (pv 4) (pv 2))))
          (fun _ _ _ _ _ => pe_tup (pa_cons (pv 4) (pa_cons (pv 5) pa_nil))))
        (pss_cons (ps_if (pt_cmpR op_eq (pe_callB call_len_seq (by rfl) B.len PySem.boot_len (pa_cons (pv 3) pa_nil)) (pe_callB call_len_seq (by rfl) B.len PySem.boot_len (pa_cons (pv 1) pa_nil)) (nomark _)) (pss_one (ps_ret pe_bl)) pss_nil)
        (pss_one (ps_set (i := 1) scRing.nd rfl (Or.inl rfl) (pv 3)))))))
      (pss_one (ps_ret pe_bl))), ?_⟩
    refine ⟨_, rfl, b, rfl, ⟨_, hb⟩, fun D hD => lc_each walk_list es (by rw [List.length_map]; exact hp.length.symm) (by rw [List.length_map, hp.length]; exact Nat.le_trans hl (by decide)) yesK (fun e v H => ∃ p, v = V.ref p ∧ H p = some (.tup (ptup e)))
      (fun e v H H' us us' h1 _ h3 ⟨p, e1, e2⟩ => ⟨p, e1, tup_stays h1 h3 e2⟩) hD (fun H' s => s.seq hb) ?_ ?_⟩
    · rintro i e x H1 H' acc N hi s hDa hal ⟨rfl, hx⟩ hy hn
      obtain ⟨a, ha, rfl⟩ := ref_get hx
      obtain ⟨e', he', hae⟩ := paired_get hp ha
      cases hi.symm.trans he'
      refine ⟨a, _, rfl, SqT.of (s _ _ hae), rfl, _, _, rfl, _, _, rfl, rfl, rfl, _, rfl, rfl, _, rfl, ?_⟩
      by_cases h1 : V.str e.1 = V.str "out"
      · rw [decide_eq_true h1]
        exact iteF (iteF (hn (by unfold yesK; rw [decide_eq_true h1]; rfl) _ (Same.refl _)))
      · rw [decide_eq_false h1]
        refine iteT ⟨_, rfl, rfl, _, rfl, ?_⟩
        by_cases h2 : V.str e.2 = V.str "out"
        · rw [decide_eq_true h2]
          exact iteF (hn (by unfold yesK; rw [decide_eq_false h1, decide_eq_true h2]; rfl) _ (Same.refl _))
        · rw [decide_eq_false h2]
          refine iteT ⟨_, rfl, _, rfl, (by show 2 ≤ sizeLine; decide), fun p hp' => ⟨acc, (Same.upd hp') _ _ hDa, hal, hy (by unfold yesK; rw [decide_eq_false h1, decide_eq_false h2]; rfl) _ _ (Same.upd hp') ⟨p, rfl, upd_same⟩⟩⟩
    · intro H1 us s hDa hpu
      obtain ⟨rs, rfl, hrs⟩ := refs_of hpu
      have hk : es.filter yesK = inner ("out" : Str) es := keep_inner es
      rw [hk] at hrs
      have hil : (inner ("out" : Str) es).length ≤ 1000 := Nat.le_trans (List.length_filter_le _ _) hl
      refine while_by (fun σ H' => ∃ (r : Addr) (v2 v3 : Option V) (rs : List Addr) (es' : List (Str × Str)), σ = [some (.ref b), some (.ref r), v2, v3, none, none] ∧ Same H H' ∧ H' r = some (.lst (rs.map V.ref)) ∧ PairsAt H' rs es' ∧ es'.length ≤ 1000 ∧ ring es' = ring (inner ("out" : Str) es)) (lenAt 1)
        ⟨D, none, none, rs, _, rfl, s, hDa, hrs, hil, rfl⟩ ?_ ?_
      · rintro σ H' ⟨r, v2, v3, rs, es', rfl, s', hr', hps, hle, hring⟩
        have hlen : rs.length = es'.length := hps.length
        refine ⟨_, rfl, Nat.zero_le _, fun z hz => ⟨r, z, rs.map V.ref, rfl, rfl, SqL.of ((Same.upd hz) _ _ hr'), SqL.of upd_same, _, rfl, ?_⟩⟩
        have sz := Same.upd (o := .lst []) hz
        cases es' with
        | nil =>
          cases rs with
          | cons a r => cases hlen
          | nil =>
            refine iteF ?_
            have q := k _ (s'.trans sz)
            rw [← hring] at q
            exact q
        | cons e0 er =>
          cases rs with
          | nil => cases hlen
          | cons a0 ar =>
            refine iteT ?_
            have sH := s'.trans sz
            have hr2 := sz _ _ hr'
            have hp2 := PairsAt.mono sz hps
            have hne : (e0 :: er : List (Str × Str)) ≠ [] := by simp
            generalize e0 :: er = es' at *
            generalize a0 :: ar = rs at *
            generalize hH2 : L2.upd H' z (.lst []) = H2 at *
            refine ⟨_, rfl, r, rfl, ⟨_, SqL.of hr2⟩, fun D1 hD1 => dc_each walk_list es' (by rw [List.length_map]; exact hp2.length.symm) (by rw [List.length_map, hp2.length]; exact Nat.le_trans hle (by decide)) (fun _ => true) (fun e => Sum.inr e.2) (fun _ => V.bl true) hD1 (fun H' s => s.seq (SqL.of hr2)) ?_ ?_⟩
            · rintro i e x H1 H' kvs N hi s hDa hal ⟨rfl, hx⟩ hy hn
              obtain ⟨a, ha, rfl⟩ := ref_get hx
              obtain ⟨e', he', hae⟩ := paired_get hp2 ha
              cases hi.symm.trans he'
              exact ⟨a, _, rfl, SqT.of (s _ _ hae), rfl, _, _, rfl, _, _, rfl, rfl, rfl, _, rfl, kvs, _, rfl, hDa, hal, hy rfl _ (Same.refl _)⟩
            · intro H3 s3 hd3
              rw [List.filter_eq_self.mpr fun _ _ => rfl] at hd3
              have hp3 := PairsAt.mono s3 hp2
              have hr3 := s3 _ _ hr2
              refine ⟨_, rfl, r, rfl, ⟨_, SqL.of hr3⟩, fun D2 hD2 => lc_each walk_list es' (by rw [List.length_map]; exact hp2.length.symm) (by rw [List.length_map, hp2.length]; exact Nat.le_trans hle (by decide)) (fun e => decide (e.1 ∈ heads es')) (fun e v H => ∃ p, v = V.ref p ∧ H p = some (.tup (ptup e)))
                (fun e v H H' us us' h1 _ h3 ⟨p, e1, e2⟩ => ⟨p, e1, tup_stays h1 h3 e2⟩) hD2 (fun H' s => s.seq (SqL.of hr3)) ?_ ?_⟩
              · rintro i e x H1 H' acc N hi s hDa hal ⟨rfl, hx⟩ hy hn
                obtain ⟨a, ha, rfl⟩ := ref_get hx
                obtain ⟨e', he', hae⟩ := paired_get hp3 ha
                cases hi.symm.trans he'
                refine ⟨a, _, rfl, SqT.of (s _ _ hae), rfl, _, _, rfl, _, _, rfl, rfl, rfl, _, rfl, _, rfl, D1, _, rfl, DGet.k (k := Sum.inr e.1) (s _ _ hd3), _, rfl, ?_⟩
                rw [heads_isSome]
                by_cases h1 : e.1 ∈ heads es'
                · rw [decide_eq_true h1]
                  exact iteT ⟨_, rfl, _, rfl, (by show 2 ≤ sizeLine; decide), fun p hp' => ⟨acc, (Same.upd hp') _ _ hDa, hal, hy (decide_eq_true h1) _ _ (Same.upd hp') ⟨p, rfl, upd_same⟩⟩⟩
                · rw [decide_eq_false h1]
                  exact iteF (hn (decide_eq_false h1) _ (Same.refl _))
              · intro H4 us s4 hDa hpu
                obtain ⟨ls, rfl, hls⟩ := refs_of hpu
                have hls : PairsAt H4 ls (prune es') := hls
                have hr4 := s4 _ _ hr3
                have e1 : ((ls.map V.ref).length : Int) = ((prune es').length : Int) := by rw [List.length_map, hls.length]
                have e2 : ((rs.map V.ref).length : Int) = (es'.length : Int) := by rw [List.length_map, hp2.length]
                refine ⟨_, rfl, D2, _, rfl, .inl (SqL.of hDa), _, rfl, r, _, rfl, .inl (SqL.of hr4), rfl, _, rfl, ?_⟩
                have sall := (sH.trans s3).trans s4
                refine ite2 (fun hq => ?_) (fun hq => ?_)
                · have hq' := of_decide_eq_true hq
                  rw [e1, e2] at hq'
                  have hq2 : (prune es').length = es'.length := by injection hq' with h; omega
                  have q := k _ sall
                  rw [← hring, ring_yes hne hq2] at q
                  exact q
                · have hq2 : (prune es').length ≠ es'.length := fun z => hq (decide_eq_true (by rw [e1, e2, z]))
                  have hlt : (prune es').length < es'.length := Nat.lt_of_le_of_ne (prune_le _) hq2
                  refine ⟨_, rfl, ⟨D2, _, _, ls, prune es', rfl, sall, hDa, hls, by omega, by rw [ring_prune]; exact hring⟩, ?_⟩
                  have h1 : lenAt 1 [some (.ref b), some (.ref D2), some (.ref D1), some (.ref D2), none, none] H4 = ls.length := by
                    show (match H4 D2 with | some (.lst xs) => xs.length | _ => 0) = _
                    rw [hDa]
                    exact List.length_map _
                  have h2 : lenAt 1 [some (.ref b), some (.ref r), v2, v3, none, none] H' = rs.length := by
                    show (match H' r with | some (.lst xs) => xs.length | _ => 0) = _
                    rw [hr']
                    exact List.length_map _
                  show lenAt 1 [some (.ref b), some (.ref D2), some (.ref D1), some (.ref D2), none, none] H4 < lenAt 1 [some (.ref b), some (.ref r), v2, v3, none, none] H'
                  rw [h1, h2, hls.length, hp2.length]
                  exact hlt
      · exact tTest_mono (t := _) fun σ H Q Q' h z => by
          obtain ⟨x, e, hl, q⟩ := z
          refine ⟨x, e, hl, fun p hp => ?_⟩
          obtain ⟨a, b, xs, e1, e2, h1, h2, q⟩ := q p hp
          exact ⟨a, b, xs, e1, e2, h1, h2, h _ _ q⟩
end
end Bw

/-! #### D3 -/
set_option Elab.async false
set_option linter.all false
set_option maxRecDepth 100000
set_option maxHeartbeats 4000000
namespace Bw
open PySem PySem.Spec PyProof.Rows L2
section
variable {P : Program} {w : World} {K : PySem.W.Frag} {mg : Str → Option Value} {base : Heap}
abbrev nLRing : List Str := ["_law_bare", "_law_rest", "_law_many", "_law_heads", "_law_here", "_law_there"]
theorem scLRing : FnScope nLRing ["_law_bare"] (defScope sLRing) := ⟨rfl, rfl, rfl, by decide +kernel, rfl, by decide +kernel, by decide +kernel⟩
def yesL (e : Str × Str) : Bool := !inV (V.str "out") [V.str e.1, V.str e.2]
theorem yesL_inner (es : List (Str × Str)) : es.filter yesL = inner ("out" : Str) es := by
  unfold inner
  congr 1
  funext e
  show (!((e.1 == "out") || ((e.2 == "out") || false))) = _
  by_cases h1 : e.1 = "out"
  · simp [h1]
  · by_cases h2 : e.2 = "out"
    · simp [h1, h2]
    · simp [h1, h2]
theorem inV_strs (x : Str) (l : List Str) : inV (V.str x) (l.map V.str) = decide (x ∈ l) := by
  unfold inV
  rw [List.any_map, Bool.eq_iff_iff, List.any_eq_true, decide_eq_true_iff]
  constructor
  · rintro ⟨y, m, h⟩
    have h' : (y == x) = true := h
    rw [← eq_of_beq h']
    exact m
  · intro m
    exact ⟨x, m, (beq_self_eq_true x : (x == x) = true)⟩
def manyAt (σ : L2.St) : Nat :=
  match (σ[(2 : Nat)]? : Option (Option V)) with
  | some (some (.int i)) => if i < 0 then 1001 else i.toNat
  | _ => 0
theorem ok_lring {f : Addr} {fd : FuncData} (F : Fun K "_law_ring" "_law_ring" sLRing f fd) (B : Bt mg) : FnOk P w K mg base CX0 1 f fd ["_law_bare"] (spRing K) := by
  refine F.ok scLRing (fun vs H Q E h => ?_) (fun cdv A outer s H vs Q E hr h => ?_)
  · obtain ⟨b, as, es, rfl, _⟩ := h
    rfl
  · obtain ⟨b, as, es, rfl, hb, hp, hl, k⟩ := h
    have hu := hu_of hr
    have hu1 := Nat.lt_of_succ_lt hu
    refine ⟨_, pss_cons (ps_setLc (i := 1) (own := [("_law_here", 4), ("_law_there", 5)]) (g := g2 K 4 5) (tt := tTest (tOp (rIn K true) (tC (.str "out")) (tTup (tCons (tVar 4) (tCons (tVar 5) tNil))))) rfl scLRing.nd rfl rfl (sw_true rfl rfl rfl (by decide +kernel)) (pi_list (pv 0)) (blkOk_by (N := nLRing) (sc := defScope sLRing) (by decide +kernel))
        (fun _ _ _ _ _ => by exact pg_tup rfl (pgs_cons (pg_name (i := 4) scLRing.nd rfl (Or.inl rfl)) (pgs_cons (pg_name (i := 5) scLRing.nd rfl (Or.inl rfl)) pgs_nil)))
        (fun _ _ _ _ _ => by exact pts_one (pt_cmpR op_notIn_seq pe_str (pe_tup (pa_cons (pv 4) (pa_cons (pv 5) pa_nil))) (by rfl)))
        (fun _ _ _ _ _ => pe_tup (pa_cons (pv 4) (pa_cons (pv 5) pa_nil))))
      (pss_cons (ps_set (i := 2) scLRing.nd rfl (Or.inl rfl) (pe_un un_neg pe_int))
      (pss_cons (ps_while PassesOwn.never (pt_cmpR op_ne (pv 2) (pe_callB call_len_seq (by rfl) B.len PySem.boot_len (pa_cons (pv 1) pa_nil)) (nomark _))
        (pss_cons (ps_set (i := 2) scLRing.nd rfl (Or.inl rfl) (pe_callB call_len_seq (by rfl) B.len PySem.boot_len (pa_cons (pv 1) pa_nil)))
        (pss_cons (ps_set (i := 3) scLRing.nd rfl (Or.inr rfl) (pe_lc (own := [("_law_here", 4), ("_law_there", 5)]) (g := g2 K 4 5) rfl scLRing.nd (pi_list (pv 1)) (blkOk_by (N := nLRing) (sc := defScope sLRing) (by decide +kernel))
          (fun _ _ _ _ _ => by exact pg_tup rfl (pgs_cons (pg_name (i := 4) scLRing.nd rfl (Or.inl rfl)) (pgs_cons (pg_name (i := 5) scLRing.nd rfl (Or.inl rfl)) pgs_nil)))
          (fun _ _ _ _ _ => pts_nil) (fun _ _ _ _ _ => pv 5)))
        (pss_one (ps_setLc (i := 1) (own := [("_law_here", 4), ("_law_there", 5)]) (g := g2 K 4 5) (tt := tTest (tOp (rIn K false) (tVar 4) (tVar 3))) rfl scLRing.nd rfl rfl (sw_true rfl rfl rfl (by decide +kernel)) (pi_list (pv 1)) (blkOk_by (N := nLRing) (sc := defScope sLRing) (by decide +kernel))
          (fun _ _ _ _ _ => by exact pg_tup rfl (pgs_cons (pg_name (i := 4) scLRing.nd rfl (Or.inl rfl)) (pgs_cons (pg_name (i := 5) scLRing.nd rfl (Or.inl rfl)) pgs_nil)))
          (fun _ _ _ _ _ => by exact pts_one (pt_cmpR op_in_seq (pv 4) (pv 3) (by rfl)))
          (fun _ _ _ _ _ => pe_tup (pa_cons (pv 4) (pa_cons (pv 5) pa_nil))))))))
      (pss_one (ps_ret (pe_cmpR (op_neNilL hu1) (pv 1) (pe_lst pa_nil) (nomark _)))))), ?_⟩
    refine ⟨_, rfl, b, rfl, ⟨_, hb⟩, fun D hD => lc_each walk_list es (by rw [List.length_map]; exact hp.length.symm) (by rw [List.length_map, hp.length]; exact Nat.le_trans hl (by decide)) yesL (fun e v H => ∃ p, v = V.ref p ∧ H p = some (.tup (ptup e)))
      (fun e v H H' us us' h1 _ h3 ⟨p, e1, e2⟩ => ⟨p, e1, tup_stays h1 h3 e2⟩) hD (fun H' s => s.seq hb) ?_ ?_⟩
    · rintro i e x H1 H' acc N hi s hDa hal ⟨rfl, hx⟩ hy hn
      obtain ⟨a, ha, rfl⟩ := ref_get hx
      obtain ⟨e', he', hae⟩ := paired_get hp ha
      cases hi.symm.trans he'
      refine ⟨a, _, rfl, SqT.of (s _ _ hae), rfl, _, _, rfl, _, _, rfl, rfl, rfl, _, rfl, _, rfl, (by show 2 ≤ sizeLine; decide), fun q hq => ⟨q, _, rfl, .inr (SqT.of upd_same), rfl, rfl, _, rfl, ?_⟩⟩
      show if yesL e = true then _ else _
      refine ite2 (fun h1 => ?_) (fun h1 => ?_)
      · refine ⟨_, rfl, _, rfl, (by show 2 ≤ sizeLine; decide), fun p hp' => ⟨acc, (Same.upd' (Same.upd hq) hp') _ _ hDa, hal, hy h1 _ _ (Same.upd' (Same.upd hq) hp') ⟨p, rfl, upd_same⟩⟩⟩
      · exact hn (Bool.eq_false_iff.mpr h1) _ (Same.upd hq)
    · intro H1 us s hDa hpu
      obtain ⟨rs, rfl, hrs⟩ := refs_of hpu
      rw [yesL_inner] at hrs
      have hil : (inner ("out" : Str) es).length ≤ 1000 := Nat.le_trans (List.length_filter_le _ _) hl
      refine ⟨1, rfl, ?_⟩
      refine while_by (fun σ H' => ∃ (r : Addr) (m : Int) (v3 : Option V) (rs : List Addr) (es' : List (Str × Str)), σ = [some (.ref b), some (.ref r), some (.int m), v3, none, none] ∧ Same H H' ∧ H' r = some (.lst (rs.map V.ref)) ∧ PairsAt H' rs es' ∧ es'.length ≤ 1000 ∧ ring es' = ring (inner ("out" : Str) es) ∧
          (m = -1 ∨ ∃ prev, m = (prev.length : Int) ∧ es' = prune prev)) (fun σ _ => manyAt σ)
        ⟨D, -1, none, rs, _, rfl, s, hDa, hrs, hil, rfl, .inl rfl⟩ ?_ ?_
      · rintro σ H' ⟨r, m, v3, rs, es', rfl, s', hr', hps, hle, hring, hm⟩
        have hlen : rs.length = es'.length := hps.length
        have el : (((rs.map V.ref).length : Nat) : Int) = (es'.length : Int) := by rw [List.length_map, hlen]
        refine ⟨_, rfl, _, rfl, r, _, rfl, .inl (SqL.of hr'), rfl, _, rfl, ?_⟩
        rw [el]
        by_cases he : m = (es'.length : Int)
        · rw [decide_eq_true (by rw [he])]
          refine iteF ⟨_, rfl, Nat.zero_le _, fun z hz => ⟨r, z, rs.map V.ref, rfl, rfl, SqL.of ((Same.upd hz) _ _ hr'), SqL.of upd_same, ?_⟩⟩
          have q := k _ (s'.trans (Same.upd (o := .lst []) hz))
          rcases hm with hm | ⟨prev, hm, hpv⟩
          · omega
          · have e1 : (prune prev).length = prev.length := by rw [← hpv]; omega
            have e2 := prune_eq e1
            have e3 : es' = prev := by rw [hpv, e2]
            have e4 : (prune es').length = es'.length := by rw [e3]; exact e1
            rw [← hring, ring_fix e4] at q
            have e5 : (!(rs.map V.ref).isEmpty) = !decide (es' = []) := by
              cases rs with
              | nil =>
                cases es' with
                | nil => rfl
                | cons _ _ => cases hlen
              | cons _ _ =>
                cases es' with
                | nil => cases hlen
                | cons _ _ => rfl
            rw [e5]
            exact q
        · rw [decide_eq_false (by intro q; injection q with q; exact he q)]
          refine iteT ⟨_, rfl, r, _, rfl, .inl (SqL.of hr'), ?_⟩
          refine ⟨_, rfl, r, rfl, ⟨_, SqL.of hr'⟩, fun D1 hD1 => lc_each walk_list es' (by rw [List.length_map]; exact hps.length.symm) (by rw [List.length_map, hps.length]; exact Nat.le_trans hle (by decide)) (fun _ => true) (fun e v _ => v = V.str e.2)
            (fun _ _ _ _ _ _ _ _ _ r => r) hD1 (fun H' s => s.seq (SqL.of hr')) ?_ ?_⟩
          · rintro i e x H1 H' acc N hi s hDa hal ⟨rfl, hx⟩ hy hn
            obtain ⟨a, ha, rfl⟩ := ref_get hx
            obtain ⟨e', he', hae⟩ := paired_get hps ha
            cases hi.symm.trans he'
            exact ⟨a, _, rfl, SqT.of (s _ _ hae), rfl, _, _, rfl, _, _, rfl, rfl, rfl, _, rfl, acc, hDa, hal, hy rfl _ _ (Same.refl _) rfl⟩
          · intro H3 us s3 hd3 hpu
            have hus := paired_eq hpu
            rw [List.filter_eq_self.mpr fun _ _ => rfl] at hus
            subst hus
            have eh : es'.map (fun e => V.str e.2) = (heads es').map V.str := by unfold heads; rw [List.map_map]; rfl
            rw [eh] at hd3
            have hp3 := PairsAt.mono s3 hps
            have hr3 := s3 _ _ hr'
            refine ⟨_, rfl, r, rfl, ⟨_, SqL.of hr3⟩, fun D2 hD2 => lc_each walk_list es' (by rw [List.length_map]; exact hps.length.symm) (by rw [List.length_map, hps.length]; exact Nat.le_trans hle (by decide)) (fun e => decide (e.1 ∈ heads es')) (fun e v H => ∃ p, v = V.ref p ∧ H p = some (.tup (ptup e)))
              (fun e v H H' us us' h1 _ h3 ⟨p, e1, e2⟩ => ⟨p, e1, tup_stays h1 h3 e2⟩) hD2 (fun H' s => s.seq (SqL.of hr3)) ?_ ?_⟩
            · rintro i e x H1 H' acc N hi s hDa hal ⟨rfl, hx⟩ hy hn
              obtain ⟨a, ha, rfl⟩ := ref_get hx
              obtain ⟨e', he', hae⟩ := paired_get hp3 ha
              cases hi.symm.trans he'
              refine ⟨a, _, rfl, SqT.of (s _ _ hae), rfl, _, _, rfl, _, _, rfl, rfl, rfl, _, rfl, _, rfl, D1, _, rfl, .inl (SqL.of (s _ _ hd3)), rfl, (by rw [List.all_map]; exact List.all_eq_true.mpr fun _ _ => rfl), _, rfl, ?_⟩
              show if inV (V.str e.1) ((heads es').map V.str) = true then _ else _
              rw [inV_strs]
              refine ite2 (fun h1 => ?_) (fun h1 => ?_)
              · refine ⟨_, rfl, _, rfl, (by show 2 ≤ sizeLine; decide), fun p hp' => ⟨acc, (Same.upd hp') _ _ hDa, hal, hy h1 _ _ (Same.upd hp') ⟨p, rfl, upd_same⟩⟩⟩
              · exact hn (Bool.eq_false_iff.mpr h1) _ (Same.refl _)
            · intro H4 us s4 hDa hpu
              obtain ⟨ls, rfl, hls⟩ := refs_of hpu
              have hls : PairsAt H4 ls (prune es') := hls
              refine ⟨⟨D2, _, _, ls, prune es', rfl, (s'.trans s3).trans s4, hDa, hls, Nat.le_trans (prune_le _) hle, by rw [ring_prune]; exact hring, .inr ⟨es', el, rfl⟩⟩, ?_⟩
              show (if (((rs.map V.ref).length : Nat) : Int) < 0 then 1001 else (((rs.map V.ref).length : Nat) : Int).toNat) < (if m < 0 then 1001 else m.toNat)
              rw [el]
              rcases hm with hm | ⟨prev, hm, hpv⟩
              · subst hm
                rw [if_neg (by omega), if_pos (by decide)]
                omega
              · have h1 : es'.length ≤ prev.length := by rw [hpv]; exact prune_le _
                rw [if_neg (by omega), if_neg (by omega)]
                omega
      · exact tTest_mono (t := _) fun σ H Q Q' h z => by
          obtain ⟨x, e, y, e1, a, xs, e2, e3, e4, q⟩ := z
          exact ⟨x, e, y, e1, a, xs, e2, e3, e4, h _ _ q⟩
end
end Bw

/-! #### D4 -/
set_option Elab.async false
set_option linter.all false
set_option maxRecDepth 100000
set_option maxHeartbeats 4000000
namespace Bw
open PySem PySem.Spec PyProof.Rows L2
/-! ### a plan in the heap -/
theorem dw_ : ¬ (("delays" : Str) = "wires") := by decide +kernel
theorem wd_ : ¬ (("wires" : Str) = "delays") := by decide +kernel
def pfs (dl wt : Addr) : List (Str × V) := putF "wires" (.ref wt) (putF "delays" (.ref dl) [])
theorem pfs_delays (dl wt : Addr) : (pfs dl wt).lookup ("delays" : Str) = some (.ref dl) := by
  unfold pfs
  rw [lookup_putF, if_neg dw_, lookup_putF, if_pos rfl]
theorem pfs_wires (dl wt : Addr) : (pfs dl wt).lookup ("wires" : Str) = some (.ref wt) := by
  unfold pfs
  rw [lookup_putF, if_pos rfl]
theorem pfs_no (dl wt : Addr) {m : Str} (h1 : ¬ m = "wires") (h2 : ¬ m = "delays") : (pfs dl wt).lookup m = none := by
  unfold pfs
  rw [lookup_putF, if_neg h1, lookup_putF, if_neg h2]
  all_goals rfl
structure PTxt (K : PySem.W.Frag) (C : Addr) : Prop where
  cl : Cls K C
  nD : NoAttr K C "delays"
  nW : NoAttr K C "wires"
/-- at p a plan: its delays at dl (names ks, delays d), its wires at wt (the wires at as, told by ws) -/
structure PlanAt (C : Addr) (H : Hp) (p dl wt : Addr) (ks : List Str) (d : Str → Int) (as : List Addr) (ws : List WireS) : Prop where
  ins : ∃ dx, H p = some (.ins C dx (pfs dl wt))
  del : H dl = some (.dK (DI ks d))
  wir : H wt = some (.tup (as.map V.ref))
  each : WiresAt H as ws
theorem PlanAt.mono {C : Addr} {H H' : Hp} {p dl wt : Addr} {ks : List Str} {d : Str → Int} {as : List Addr} {ws : List WireS} (s : Same H H') (h : PlanAt C H p dl wt ks d as ws) : PlanAt C H' p dl wt ks d as ws := by
  obtain ⟨⟨dx, h1⟩, h2, h3, h4⟩ := h
  exact ⟨⟨dx, s _ _ h1⟩, s _ _ h2, s _ _ h3, h4.mono s⟩
section
variable {P : Program} {w : World} {K : PySem.W.Frag} {mg : Str → Option Value} {base : Heap}
/-! ### registers -/
def spRegs (C : Addr) : Sp := fun vs H Q _ => ∃ (p m dl wt : Addr) (ks : List Str) (d : Str → Int) (as : List Addr) (ws : List WireS) (mv : Str → Int), vs = [.ref p, .ref m] ∧ PlanAt C H p dl wt ks d as ws ∧ MovesAt H m mv ∧ ws.length ≤ 1000 ∧
  ∀ H' q, Same H H' → H q = none → H' q = some (.lst ((regs ws mv).map V.int)) → Q (.ref q) H'
abbrev nRegs : List Str := ["self", "moves", "here", "there", "many"]
theorem scRegs : FnScope nRegs ["self", "moves"] (defScope sRegs) := ⟨rfl, rfl, rfl, by decide +kernel, rfl, by decide +kernel, by decide +kernel⟩
theorem MovesAt.get {H : Hp} {m : Addr} {mv : Str → Int} (h : MovesAt H m mv) (k : Str) : IsD H m ∧ ∃ o, DGet H m (.str k) o ∧ o.getD (.int 0) = .int (mv k) := by
  obtain ⟨kvs, e, h⟩ := h
  exact ⟨.inl ⟨kvs, .inl e⟩, _, DGet.k (k := Sum.inr k) e, h k⟩
theorem ok_regs {C f : Addr} {fd : FuncData} (F : Fun K "registers" "Plan.registers" sRegs f fd) (T : PTxt K C) : FnOk P w K mg base CX0 1 f fd ["self", "moves"] (spRegs C) := by
  refine F.ok scRegs (fun vs H Q E h => ?_) (fun cdv A outer s H vs Q E hr h => ?_)
  · obtain ⟨p, m, dl, wt, ks, d, as, ws, mv, rfl, _⟩ := h
    rfl
  · obtain ⟨p, m, dl, wt, ks, d, as, ws, mv, rfl, hP, hM, hl, k⟩ := h
    have hu := hu_of hr
    obtain ⟨⟨dx, h1⟩, h2, h3, h4⟩ := hP
    refine ⟨_, pss_one (ps_ret (pe_lc (own := [("here", 2), ("there", 3), ("many", 4)]) (g := g3 K 2 3 4) (tt := tYes) rfl scRegs.nd (pi_tup (pe_fld (pv 0) rfl)) (blkOk_by (N := nRegs) (sc := defScope sRegs) (by decide +kernel))
      (fun _ _ _ _ _ => by exact pg_tup rfl (pgs_cons (pg_name (i := 2) scRegs.nd rfl (Or.inl rfl)) (pgs_cons (pg_name (i := 3) scRegs.nd rfl (Or.inl rfl)) (pgs_cons (pg_name (i := 4) scRegs.nd rfl (Or.inl rfl)) pgs_nil))))
      (fun _ _ _ _ _ => pts_nil)
      (fun _ _ _ _ _ => pe_op op_sub (pe_op op_add (pv 4) (pe_dget2 hu (pv 1) (pv 3) pe_int ⟨rfl, rfl, rfl, rfl⟩)) (pe_dget2 hu (pv 1) (pv 2) pe_int ⟨rfl, rfl, rfl, rfl⟩)))), ?_⟩
    refine ⟨_, rfl, p, C, dx, _, _, rfl, h1, T.cl, T.nW, pfs_wires _ _, wt, rfl, ⟨_, SqT.of h3⟩, fun D hD => lc_each walk_tup ws (by rw [List.length_map]; exact h4.length.symm) (by rw [List.length_map, h4.length]; exact Nat.le_trans hl (by decide)) (fun _ => true) (fun w v _ => v = V.int (rg mv w))
      (fun _ _ _ _ _ _ _ _ _ r => r) hD (fun H' s => SqT.of (s _ _ h3)) ?_ ?_⟩
    · rintro i e x H1 H' acc N hi s hDa hal ⟨rfl, hx⟩ hy hn
      obtain ⟨a, ha, rfl⟩ := ref_get hx
      obtain ⟨e', he', hae⟩ := paired_get h4 ha
      cases hi.symm.trans he'
      obtain ⟨i1, o1, g1, v1⟩ := (hM.mono s).get e.2.1
      obtain ⟨i2, o2, g2, v2⟩ := (hM.mono s).get e.1
      refine ⟨a, _, rfl, SqT.of (s _ _ hae), rfl, _, _, rfl, _, _, rfl, _, _, rfl, rfl, rfl, ?_⟩
      refine ⟨_, rfl, _, rfl, m, rfl, i1, _, rfl, o1, g1, _, _, rfl, v1, _, rfl, m, rfl, i2, _, rfl, o2, g2, _, _, rfl, v2, acc, hDa, hal, ?_⟩
      exact hy rfl _ _ (Same.refl _) rfl
    · intro H1 us s hDa hp
      have e := paired_eq hp
      rw [List.filter_eq_self.mpr fun _ _ => rfl] at e
      subst e
      refine k H1 D s hD ?_
      rw [hDa]
      unfold regs
      rw [List.map_map]
      rfl
end
end Bw

/-! #### D5 -/
set_option Elab.async false
set_option linter.all false
set_option maxRecDepth 100000
set_option maxHeartbeats 4000000
namespace Bw
open PySem PySem.Spec PyProof.Rows L2
section
variable {P : Program} {w : World} {K : PySem.W.Frag} {mg : Str → Option Value} {base : Heap}
/-! ### beat -/
def optV : Option Int → V
  | none => .non
  | some b => .int b
abbrev beatS (ks : List Str) (d : Str → Int) (ws : List WireS) (mv : Str → Int) : Option Int := beatOf ("out" : Str) ks d ws mv
def spBeat (C : Addr) : Sp := fun vs H Q _ => ∃ (p m dl wt : Addr) (ks : List Str) (d : Str → Int) (as : List Addr) (ws : List WireS) (mv : Str → Int), vs = [.ref p, .ref m] ∧ PlanAt C H p dl wt ks d as ws ∧ MovesAt H m mv ∧ ws.length ≤ 1000 ∧ ks.length ≤ 1000 ∧
  (("out" : Str) ∈ ks) ∧ (∀ w ∈ ws, w.1 ∈ ks ∧ w.2.1 ∈ ks) ∧ ∀ H', Same H H' → Q (optV (beatS ks d ws mv)) H'
abbrev nBeat : List Str := ["self", "moves", "many", "here", "there", "bare", "found", "_", "number", "before"]
theorem scBeat : FnScope nBeat ["self", "moves"] (defScope sBeat) := ⟨rfl, rfl, rfl, by decide +kernel, rfl, by decide +kernel, by decide +kernel⟩
theorem ok_beat {C f f1 f2 : Addr} {fd fd1 fd2 : FuncData} (F : Fun K "beat" "Plan.beat" sBeat f fd) (B : Bt mg) (T : PTxt K C) (hO : ∃ t, mg "OUT" = some (.str "out" t))
    (F1 : Fun K "registers" "Plan.registers" sRegs f1 fd1) (b1 : Binds K fd1 ["self", "moves"] []) (m1 : Meth K C "registers" f1) (F2 : Fun K "ring_in" "ring_in" sRingIn f2 fd2) (b2 : Binds K fd2 ["bare"] []) (mg2 : mg "ring_in" = some (.ref f2)) :
    FnOk P w K mg base CX0 2 f fd ["self", "moves"] (spBeat C) := by
  have G1 : FnOk P w K mg base CX0 1 f1 fd1 ["self", "moves"] (spRegs C) := ok_regs F1 T
  have G2 : FnOk P w K mg base CX0 1 f2 fd2 ["bare"] (spRing K) := ok_ring F2 B hO
  obtain ⟨tO, hO⟩ := hO
  refine F.ok scBeat (fun vs H Q E h => ?_) (fun cdv A outer s H vs Q E hr h => ?_)
  · obtain ⟨p, m, dl, wt, ks, d, as, ws, mv, rfl, _⟩ := h
    rfl
  · obtain ⟨p, m, dl, wt, ks, d, as, ws, mv, rfl, hP, hM, hl, hkl, hout, hends, k⟩ := h
    have hu := hu_of hr
    refine ⟨_, pss_cons (ps_set (i := 2) scBeat.nd rfl (Or.inl rfl) (pe_meth (pv 0) T.cl m1 G1 hr b1 .nil pass0 (pa_cons (pv 1) pa_nil)))
      (pss_cons (ps_if (pt_not (pt_val (pe_callB (cr_all rfl) (by rfl) B.all (by decide +kernel) (pa_cons (pe_lc (own := [("number", 8)]) (g := gName 8) rfl scBeat.nd (pi_list (pv 2)) (blkOk_by (N := nBeat) (sc := defScope sBeat) (by decide +kernel))
        (fun _ _ _ _ _ => pg_name (i := 8) scBeat.nd rfl (Or.inl rfl)) (fun _ _ _ _ _ => pts_nil) (fun _ _ _ _ _ => pe_cmpR op_ge (pv 8) pe_int (nomark _))) pa_nil)))) (pss_one (ps_ret pe_non)) pss_nil)
      (pss_cons (ps_setLc (i := 5) (own := [("here", 3), ("there", 4), ("before", 9), ("number", 8)]) (g := gTup K 2 (gCons (gTup K 3 (gCons (gName 3) (gCons (gName 4) (gCons (gName 9) gNil)))) (gCons (gName 8) gNil))) rfl scBeat.nd rfl rfl (sw_true rfl rfl rfl (by decide +kernel))
          (pi_zipM (by rfl) B.zip (pa_cons (pe_fld (pv 0) rfl) (pa_cons (pv 2) pa_nil))) (blkOk_by (N := nBeat) (sc := defScope sBeat) (by decide +kernel))
        (fun _ _ _ _ _ => by exact pg_tup rfl (pgs_cons (pg_tup rfl (pgs_cons (pg_name (i := 3) scBeat.nd rfl (Or.inl rfl)) (pgs_cons (pg_name (i := 4) scBeat.nd rfl (Or.inl rfl)) (pgs_cons (pg_name (i := 9) scBeat.nd rfl (Or.inl rfl)) pgs_nil)))) (pgs_cons (pg_name (i := 8) scBeat.nd rfl (Or.inl rfl)) pgs_nil)))
        (fun _ _ _ _ _ => by exact pts_one (pt_cmpR op_eq (pv 8) pe_int (nomark _)))
        (fun _ _ _ _ _ => pe_tup (pa_cons (pv 3) (pa_cons (pv 4) pa_nil))))
      (pss_cons (ps_if (pt_val (pe_call G2 hr (by rfl) mg2 F2.kp b2 .nil pass0 (pa_cons (pv 5) pa_nil))) (pss_one (ps_ret pe_non)) pss_nil)
      (pss_cons (ps_set (i := 6) scBeat.nd rfl (Or.inl rfl) (pe_callTy call_dictD (by rfl) B.dict (by decide +kernel) (pa_cons (pe_fld (pv 0) rfl) pa_nil)))
      (pss_cons (ps_lock (ps_for PassesOwn.never rfl (pi_keys (pe_fld (pv 0) rfl)) (pg_name (i := 7) scBeat.nd rfl (Or.inl rfl))
        (pss_one (ps_for PassesOwn.never rfl (pi_list (pv 5)) (pg_tup rfl (pgs_cons (pg_name (i := 3) scBeat.nd rfl (Or.inl rfl)) (pgs_cons (pg_name (i := 4) scBeat.nd rfl (Or.inl rfl)) pgs_nil)))
          (pss_one (ps_if (pt_cmpR op_ne (pv 3) (pe_glob (v := .str "out") (by rfl) hO ⟨_, rfl⟩) (nomark _))
            (pss_one (ps_dput hu (pv 6) (pv 4) (pe_callB (call_max2 rfl) (by rfl) B.max (by decide +kernel) (pa_cons (pe_dget hu (pv 6) (pv 4) (fun _ _ => rfl)) (pa_cons (pe_op op_add (pe_dget hu (pv 6) (pv 3) (fun _ _ => rfl)) (pe_dget hu (pe_fld (pv 0) rfl) (pv 4) (fun _ _ => rfl))) pa_nil))) rfl)) pss_nil))))))
      (pss_one (ps_ret (pe_maxVals rfl (by rfl) B.max (pv 6))))))))), ?_⟩
    obtain ⟨dx, hp1⟩ := hP.ins
    refine ⟨_, rfl, p, dx, _, rfl, hp1, pfs_no _ _ (by decide +kernel) (by decide +kernel), _, rfl, p, m, dl, wt, ks, d, as, ws, mv, rfl, hP, hM, hl, fun H1 q s1 hq0 hq1 => ?_⟩
    have hrl : (regs ws mv).length = ws.length := by unfold regs; rw [List.length_map]
    refine ⟨_, rfl, q, rfl, ⟨_, SqL.of hq1⟩, fun D hD => lc_each walk_list (regs ws mv) (by rw [List.length_map]) (by rw [List.length_map, hrl]; exact Nat.le_trans hl (by decide)) (fun _ => true) (fun r v _ => v = V.bl (decide (0 ≤ r)))
      (fun _ _ _ _ _ _ _ _ _ r => r) hD (fun H' s => s.seq (SqL.of hq1)) ?_ ?_⟩
    · rintro i r x H2 H' acc N hi s hDa hal ⟨rfl, hx⟩ hy hn
      have ex : x = V.int r := by
        rw [List.getElem?_map, hi] at hx
        exact (Option.some.inj hx).symm
      subst ex
      exact ⟨rfl, _, rfl, _, _, rfl, rfl, acc, hDa, hal, hy rfl _ _ (Same.refl _) rfl⟩
    · intro H2 us s2 hDa hpu
      have hus := paired_eq hpu
      rw [List.filter_eq_self.mpr fun _ _ => rfl] at hus
      subst hus
      refine ⟨D, (regs ws mv).map fun r => decide (0 ≤ r), rfl, SqL.of (by rw [hDa, List.map_map]; rfl), _, rfl, ?_⟩
      have eany : (((regs ws mv).map fun r => decide (0 ≤ r)).all id) = !(regs ws mv).any fun r => decide (r < 0) := by
        rw [List.all_map, Bool.eq_iff_iff]
        simp only [List.all_eq_true, Bool.not_eq_true', List.any_eq_false, Function.comp, id, decide_eq_true_iff]
        constructor
        · intro h x hx hlt
          have := h x hx
          omega
        · intro h x hx
          have := h x hx
          omega
      rw [eany]
      by_cases hneg : ((regs ws mv).any fun r => decide (r < 0)) = true
      · rw [hneg]
        refine iteT ?_
        have qq := k _ (s1.trans s2)
        unfold beatS beatOf at qq
        rw [if_pos hneg] at qq
        exact qq
      · rw [Bool.eq_false_iff.mpr hneg]
        refine iteF ?_
        have s12 := s1.trans s2
        have hP2 := hP.mono s12
        obtain ⟨dx2, hp2⟩ := hP2.ins
        have hq2 := s2 _ _ hq1
        have hasl : as.length = ws.length := hP.each.length
        refine ⟨_, rfl, p, C, dx2, _, _, rfl, hp2, T.cl, T.nW, pfs_wires _ _, _, rfl, wt, q, _, _, rfl, SqT.of hP2.wir, SqL.of hq2, fun D2 hD2 => lc_each (walk_zipM (xs := as.map V.ref) (ys := (regs ws mv).map V.int) (by rw [List.length_map, List.length_map, hrl, hasl])) ws (by rw [List.length_map]; exact hasl.symm)
          (by rw [List.length_map, hasl]; exact Nat.le_trans hl (by decide)) (fun w => decide (rg mv w = 0)) (fun w v H => ∃ p, v = V.ref p ∧ H p = some (.tup (ptup (w.1, w.2.1))))
          (fun e v H H' us us' h1 _ h3 ⟨p, e1, e2⟩ => ⟨p, e1, tup_stays h1 h3 e2⟩) hD2 (fun H' s => ⟨SqT.of (s _ _ hP2.wir), s.seq (SqL.of hq2)⟩) ?_ ?_⟩
        · rintro i w x H3 H' acc N hi s hDa hal ⟨TT, x1, y1, rfl, hTT, rfl, hx1, hy1⟩ hy hn
          obtain ⟨a, ha, rfl⟩ := ref_get hx1
          obtain ⟨w', hw', hae⟩ := paired_get hP2.each ha
          cases hi.symm.trans hw'
          have ey : y1 = V.int (rg mv w) := by
            have hr' : (regs ws mv)[i]? = some (rg mv w) := by
              unfold regs
              rw [List.getElem?_map, hi]
              rfl
            have hy2 : ((regs ws mv).map V.int)[i]? = some y1 := hy1
            rw [List.getElem?_map, hr'] at hy2
            exact (Option.some.inj hy2).symm
          subst ey
          have sT := Same.upd (o := .tup [V.ref a, V.int (rg mv w)]) hTT
          refine ⟨TT, _, rfl, SqT.of upd_same, rfl, _, _, rfl, a, _, rfl, SqT.of (sT _ _ (s _ _ hae)), rfl, _, _, rfl, _, _, rfl, _, _, rfl, rfl, _, _, rfl, rfl, rfl, _, rfl, rfl, _, rfl, ?_⟩
          by_cases hz : rg mv w = 0
          · rw [decide_eq_true (by rw [hz])]
            exact iteT ⟨_, rfl, _, rfl, (by show 2 ≤ sizeLine; decide), fun p hp' => ⟨acc, (Same.upd' sT hp') _ _ hDa, hal, hy (decide_eq_true hz) _ _ (Same.upd' sT hp') ⟨p, rfl, upd_same⟩⟩⟩
          · rw [decide_eq_false (by intro z; injection z with z; exact hz z)]
            exact iteF (hn (decide_eq_false hz) _ sT)
        · intro H3 us s3 hDb hpu
          obtain ⟨bs, rfl, hbs0⟩ := refs_of hpu
          have hbs : PairsAt H3 bs (bareOf ws mv) := by
            unfold PairsAt bareOf
            clear hpu hDb
            generalize ws.filter (fun w => decide (rg mv w = 0)) = l at hbs0
            induction hbs0 with
            | nil => exact .nil
            | cons h _ ih => exact .cons h ih
          have hbl : (bareOf ws mv).length ≤ 1000 := by
            unfold bareOf
            rw [List.length_map]
            exact Nat.le_trans (List.length_filter_le _ _) hl
          have s13 := s12.trans s3
          refine ⟨_, rfl, D2, bs, bareOf ws mv, rfl, SqL.of hDb, hbs, hbl, fun H4 s4 => ⟨_, rfl, ?_⟩⟩
          have s14 := s13.trans s4
          by_cases hring : ring (inner ("out" : Str) (bareOf ws mv)) = true
          · rw [hring]
            refine iteT ?_
            have qq := k _ s14
            unfold beatS beatOf at qq
            rw [if_neg hneg, if_pos hring] at qq
            exact qq
          · rw [Bool.eq_false_iff.mpr hring]
            refine iteF ?_
            have hP4 := hP.mono s14
            obtain ⟨dx4, hp4⟩ := hP4.ins
            have hbs4 := PairsAt.mono s4 hbs
            have hDb4 := s4 _ _ hDb
            refine ⟨_, rfl, p, C, dx4, _, _, rfl, hp4, T.cl, T.nD, pfs_delays _ _, dl, DI ks d, rfl, .inl hP4.del, fun fd hfd => ?_⟩
            have sfd := Same.upd (o := .dK (DI ks d)) hfd
            have hfd0 : H fd = none := s14.free hfd
            generalize hH5 : L2.upd H4 fd (.dK (DI ks d)) = H5
            rw [hH5] at sfd
            have hfd5 : H5 fd = some (.dK (DI ks d)) := by rw [← hH5]; exact upd_same
            have hP5 := hP4.mono sfd
            have hdl5 := hP5.del
            have ndf : dl ≠ fd := ne_of_none hP4.del hfd
            refine ⟨dl, _, hdl5, True.intro, fun od => ?_⟩
            generalize hH6 : L2.upd H5 dl (.frz od (.dK (DI ks d))) = H6
            have hdl6 : H6 dl = some (.frz od (.dK (DI ks d))) := by rw [← hH6]; exact upd_same
            have ne6 : ∀ b, b ≠ dl → H6 b = H5 b := fun b hb => by rw [← hH6]; exact upd_ne hb
            obtain ⟨dx5, hp5⟩ := hP5.ins
            have hp6 : H6 p = some (.ins C dx5 (pfs dl wt)) := by rw [ne6 p (ne_of hp5 hdl5 (by intro z; cases z))]; exact hp5
            have hD6 : H6 D2 = some (.lst (bs.map V.ref)) := by rw [ne6 D2 (ne_of (sfd _ _ hDb4) hdl5 (by intro z; cases z))]; exact sfd _ _ hDb4
            have hbs6 : PairsAt H6 bs (bareOf ws mv) := Paired.mapP (PairsAt.mono sfd hbs4) fun a e h => by rw [ne6 a (ne_of h hdl5 (by intro z; cases z))]; exact h
            have hfd6 : H6 fd = some (.dK (DI ks d)) := by rw [ne6 fd ndf.symm]; exact hfd5
            have npf : p ≠ fd := ne_of hp6 hfd6 (by intro z; cases z)
            have nDf : D2 ≠ fd := ne_of hD6 hfd6 (by intro z; cases z)
            refine ⟨_, rfl, p, C, dx5, _, _, rfl, hp6, T.cl, T.nD, pfs_delays _ _, dl, od, rfl, .inl ⟨DI ks d, hdl6, for_it walk_keys (fun i σ H' => ∃ v3 v4 v7, σ = [some (.ref p), some (.ref m), some (.ref q), v3, v4, some (.ref D2), some (.ref fd), v7, none, none] ∧ SameB fd H6 H' ∧ H' fd = some (.dK (DI ks (pfin ("out" : Str) d (bareOf ws mv) i))))
              ⟨_, _, _, rfl, fun _ _ _ e => e, hfd6⟩ (fun i σ H' _ ⟨_, _, _, _, sb, _⟩ => sb _ _ ndf hdl6) ?_ ?_⟩⟩
            · rintro i x σ H7 H7' hi ⟨v3, v4, v7, rfl, sb, hf7⟩ ⟨rfl, k', v', _, rfl⟩
              have hlb : (bs.map V.ref).length = (bareOf ws mv).length := by rw [List.length_map]; exact hbs.length
              refine ⟨_, rfl, D2, rfl, ⟨_, SqL.of (sb _ _ nDf hD6)⟩, for_it walk_list (fun j σ H' => ∃ v3 v4 v7, σ = [some (.ref p), some (.ref m), some (.ref q), v3, v4, some (.ref D2), some (.ref fd), v7, none, none] ∧ SameB fd H6 H' ∧ H' fd = some (.dK (DI ks (((bareOf ws mv).take j).foldl (relax1 ("out" : Str) d) (pfin ("out" : Str) d (bareOf ws mv) i)))))
                ⟨_, _, _, rfl, sb, hf7⟩ (fun j σ H' _ ⟨_, _, _, _, sb, _⟩ => SqL.of (sb _ _ nDf hD6)) ?_ ?_⟩
              · rintro j x σ H8 H8' hj ⟨v3, v4, v7, rfl, sb8, hf8⟩ ⟨rfl, hx⟩
                obtain ⟨a, ha, rfl⟩ := ref_get hx
                obtain ⟨e, he, hae⟩ := paired_get hbs6 ha
                have nae : a ≠ fd := ne_of hae hfd6 (by intro z; cases z)
                have hmem : e ∈ bareOf ws mv := List.mem_of_getElem? he
                have hek := ends_bare (mv := mv) hends e hmem
                have etake : (bareOf ws mv).take (j + 1) = (bareOf ws mv).take j ++ [e] := by rw [List.take_succ, he]; rfl
                generalize hg : ((bareOf ws mv).take j).foldl (relax1 ("out" : Str) d) (pfin ("out" : Str) d (bareOf ws mv) i) = g at hf8
                have enext : ((bareOf ws mv).take (j + 1)).foldl (relax1 ("out" : Str) d) (pfin ("out" : Str) d (bareOf ws mv) i) = relax1 ("out" : Str) d g e := by
                  rw [etake, List.foldl_append, hg]
                  rfl
                refine ⟨a, _, rfl, SqT.of (sb8 _ _ nae hae), rfl, _, _, rfl, _, _, rfl, rfl, _, rfl, rfl, _, rfl, ?_⟩
                by_cases h1 : e.1 = ("out" : Str)
                · rw [decide_eq_true (by rw [h1])]
                  refine iteF ⟨_, _, _, rfl, sb8, ?_⟩
                  rw [enext, hf8]
                  unfold relax1
                  rw [if_neg (fun z => z h1)]
                · rw [decide_eq_false (by intro z; injection z with z; exact h1 z)]
                  refine iteT ?_
                  refine ⟨_, rfl, _, rfl, fd, _, rfl, get_DI hf8 hek.2, ?_⟩
                  refine ⟨_, rfl, _, rfl, fd, _, rfl, get_DI hf8 hek.1, ?_⟩
                  refine ⟨_, rfl, p, C, dx5, _, _, rfl, sb8 _ _ npf hp6, T.cl, T.nD, pfs_delays _ _, _, rfl, dl, _, rfl, get_DIf (sb8 _ _ ndf hdl6) hek.2, ?_⟩
                  refine ⟨_, _, rfl, rfl, _, _, rfl, _, rfl, _, rfl, fd, _, rfl, DPut.k (k := Sum.inr e.2) hf8 (by rw [DI_length]; exact Nat.lt_of_le_of_lt hkl (by decide)), ?_⟩
                  refine ⟨_, _, _, rfl, fun b o hb hbo => by rw [upd_ne hb]; exact sb8 b o hb hbo, ?_⟩
                  rw [upd_same, enext, put_DI hek.2]
                  unfold relax1
                  rw [if_pos h1]
                  have : (if g e.1 + d e.2 > g e.2 then g e.1 + d e.2 else g e.2) = max (g e.2) (g e.1 + d e.2) := by
                    by_cases hlt : g e.1 + d e.2 > g e.2
                    · rw [if_pos hlt]; omega
                    · rw [if_neg hlt]; omega
                  rw [this]
              · rintro σ H8 ⟨v3, v4, v7, rfl, sb8, hf8⟩
                refine ⟨_, _, _, rfl, sb8, ?_⟩
                rw [hf8, hlb, List.take_length]
                rfl
            · rintro σ H7 ⟨v3, v4, v7, rfl, sb, hf7⟩
              refine ⟨sb _ _ ndf hdl6, ?_⟩
              rw [DI_length] at hf7
              refine ⟨_, rfl, fd, _, ks.map (pfin ("out" : Str) d (bareOf ws mv) ks.length), rfl, (by rw [upd_ne ndf.symm]; exact hf7), (by unfold DI; rw [List.map_map, List.map_map]; rfl), (by intro z; rw [List.map_eq_nil_iff] at z; rw [z] at hout; cases hout), fun mm hmm hle => ?_⟩
              have emm := maxL_of hmm hle
              have sall : Same H (L2.upd H7 dl (.dK (DI ks d))) := fun b o hbo => by
                have hbf : b ≠ fd := ne_of_none hbo hfd0
                by_cases hb : b = dl
                · subst hb
                  rw [upd_same, ← hbo, hP.del]
                · rw [upd_ne hb]
                  exact sb _ _ hbf (by rw [ne6 b hb]; exact sfd _ _ (s14 _ _ hbo))
              have qq := k _ sall
              unfold beatS beatOf at qq
              rw [if_neg hneg, if_neg hring, ← emm] at qq
              exact qq
end
end Bw

/-! #### D6 -/
set_option Elab.async false
set_option linter.all false
set_option maxRecDepth 100000
set_option maxHeartbeats 4000000
namespace Bw
open PySem PySem.Spec PyProof.Rows L2
section
variable {P : Program} {w : World} {K : PySem.W.Frag} {mg : Str → Option Value} {base : Heap}
/-! ### _law_beat -/
def spLBeat (K : PySem.W.Frag) : Sp := fun vs H Q _ => ∃ (dl wl m : Addr) (ns : List Str) (d : Str → Int) (as : List Addr) (ws : List WireS) (mv : Str → Int), vs = [.ref dl, .ref wl, .ref m] ∧ H dl = some (.dK (DI ns d)) ∧ SqL K H wl (as.map V.ref) ∧ WiresAt H as ws ∧ MovesAt H m mv ∧ ws.length ≤ 1000 ∧ ns.length ≤ 100 ∧
  (ns ++ [("out" : Str)]).Nodup ∧ d ("out" : Str) = 0 ∧ (∀ w ∈ ws, w.1 ∈ ns ++ [("out" : Str)] ∧ w.2.1 ∈ ns ++ [("out" : Str)]) ∧ ∀ H', Same H H' → Q (optV (beatS (ns ++ [("out" : Str)]) d ws mv)) H'
abbrev nLBeat : List Str := ["_law_delays", "_law_wires", "_law_moves", "_law_here", "_law_there", "_law_many", "_law_bare", "_law_best", "_law_turn", "_law_late", "_law_count", "_law_wire"]
theorem scLBeat : FnScope nLBeat ["_law_delays", "_law_wires", "_law_moves"] (defScope sLBeat) := ⟨rfl, rfl, rfl, by decide +kernel, rfl, by decide +kernel, by decide +kernel⟩
theorem pairs_bare {H : Hp} {mv : Str → Int} {bs : List Addr} {ws : List WireS} (h : Paired (fun p w => H p = some (.tup (ptup (w.1, w.2.1)))) bs (ws.filter fun w => decide (rg mv w = 0))) : PairsAt H bs (bareOf ws mv) := by
  unfold PairsAt bareOf
  generalize ws.filter (fun w => decide (rg mv w = 0)) = l at h
  induction h with
  | nil => exact .nil
  | cons h _ ih => exact .cons h ih
theorem DI_nodup {ks : List Str} {f : Str → Int} (h : ks.Nodup) : ((DI ks f).map (·.1)).Nodup := by
  unfold DI
  rw [List.map_map]
  show (ks.map fun k => (Sum.inr k : Key)).Nodup
  exact List.Pairwise.map _ (fun a b (hab : a ≠ b) e => hab (Sum.inr.inj e)) h
theorem merge_DI {ks : List Str} {f : Str → Int} (h : ks.Nodup) : mergeK [] (DI ks f) = DI ks f := by
  have := mergeK_self (kvs := DI ks f) (acc := []) (by simpa using DI_nodup h)
  simpa using this
theorem DI_append {ks ls : List Str} {f : Str → Int} : DI (ks ++ ls) f = DI ks f ++ DI ls f := by
  unfold DI
  rw [List.map_append]
theorem lawL_step {ks : List Str} {d : Str → Int} {bare : List (Str × Str)} {n : Nat} {x : Str → Int} (h : ¬ ∀ k ∈ ks, lround ("out" : Str) d bare x k = x k) : lawL ("out" : Str) ks d bare (n + 1) x = lawL ("out" : Str) ks d bare n (lround ("out" : Str) d bare x) := if_neg h
theorem lawL_stop {ks : List Str} {d : Str → Int} {bare : List (Str × Str)} {n : Nat} {x : Str → Int} (h : ∀ k ∈ ks, lround ("out" : Str) d bare x k = x k) : lawL ("out" : Str) ks d bare (n + 1) x = if ring (inner ("out" : Str) bare) = true then none else some (maxL (ks.map x)) := if_pos h
theorem join {c : Prop} [Decidable c] {A B : Prop} (h1 : c → B → A) (h2 : B) : if c then A else B := by
  by_cases h : c
  · rw [if_pos h]
    exact h1 h h2
  · rw [if_neg h]
    exact h2
theorem ok_lbeat {f f2 : Addr} {fd fd2 : FuncData} (F : Fun K "_law_beat" "_law_beat" sLBeat f fd) (B : Bt mg)
    (F2 : Fun K "_law_ring" "_law_ring" sLRing f2 fd2) (b2 : Binds K fd2 ["_law_bare"] []) (mg2 : mg "_law_ring" = some (.ref f2)) :
    FnOk P w K mg base CX0 2 f fd ["_law_delays", "_law_wires", "_law_moves"] (spLBeat K) := by
  have G2 : FnOk P w K mg base CX0 1 f2 fd2 ["_law_bare"] (spRing K) := ok_lring F2 B
  refine F.ok scLBeat (fun vs H Q E h => ?_) (fun cdv A outer s H vs Q E hr h => ?_)
  · obtain ⟨dl, wl, m, ns, d, as, ws, mv, rfl, _⟩ := h
    rfl
  · obtain ⟨dl, wl, m, ns, d, as, ws, mv, rfl, hdl, hwl, hW, hM, hl, hnl, hnd, hdo, hends, k⟩ := h
    have hu := hu_of hr
    have hu1 := Nat.lt_of_succ_lt hu
    refine ⟨_, pss_cons (ps_setLc (i := 5) (own := [("_law_here", 3), ("_law_there", 4), ("_law_count", 10)]) (g := g3 K 3 4 10) rfl scLBeat.nd rfl rfl (sw_true rfl rfl rfl (by decide +kernel)) (pi_list (pv 1)) (blkOk_by (N := nLBeat) (sc := defScope sLBeat) (by decide +kernel))
        (fun _ _ _ _ _ => by exact pg_tup rfl (pgs_cons (pg_name (i := 3) scLBeat.nd rfl (Or.inl rfl)) (pgs_cons (pg_name (i := 4) scLBeat.nd rfl (Or.inl rfl)) (pgs_cons (pg_name (i := 10) scLBeat.nd rfl (Or.inl rfl)) pgs_nil))))
        (fun _ _ _ _ _ => pts_nil)
        (fun _ _ _ _ _ => pe_op op_sub (pe_op op_add (pv 10) (pe_dget2 hu (pv 2) (pv 4) pe_int ⟨rfl, rfl, rfl, rfl⟩)) (pe_dget2 hu (pv 2) (pv 3) pe_int ⟨rfl, rfl, rfl, rfl⟩)))
      (pss_cons (ps_if (pw_and (pt_cmpR (op_neNilL hu1) (pv 5) (pe_lst pa_nil) (nomark _)) (pw_and1 (pt_cmpR op_lt (pe_callB (cr_min rfl) (by rfl) B.min (by decide +kernel) (pa_cons (pv 5) pa_nil)) pe_int (nomark _)))).pt (pss_one (ps_ret pe_non)) pss_nil)
      (pss_cons (ps_setLc (i := 6) (own := [("_law_wire", 11), ("_law_count", 10)]) (g := g2 K 11 10) (te := tTup (tCons (tOp (rIxT K) (tVar 11) (tC (.int 0))) (tCons (tOp (rIxT K) (tVar 11) (tC (.int 1))) tNil))) rfl scLBeat.nd rfl rfl (sw_true rfl rfl rfl (by decide +kernel))
          (pi_zip (by rfl) B.zip (pa_cons (pv 1) (pa_cons (pv 5) pa_nil))) (blkOk_by (N := nLBeat) (sc := defScope sLBeat) (by decide +kernel))
        (fun _ _ _ _ _ => by exact pg_tup rfl (pgs_cons (pg_name (i := 11) scLBeat.nd rfl (Or.inl rfl)) (pgs_cons (pg_name (i := 10) scLBeat.nd rfl (Or.inl rfl)) pgs_nil)))
        (fun _ _ _ _ _ => by exact pts_one (pt_cmpR op_eq (pv 10) pe_int (nomark _)))
        (fun _ _ _ _ _ => by exact pe_tup (pa_cons (pe_ix ix_tup (pv 11) pe_int (fun _ _ => rfl)) (pa_cons (pe_ix ix_tup (pv 11) pe_int (fun _ _ => rfl)) pa_nil))))
      (pss_cons (ps_set (i := 7) scLBeat.nd rfl (Or.inl rfl) (pe_callTy (call_dictP rfl) (by rfl) B.dict (by decide +kernel) (pa_cons (pe_op op_cat (LiI.pe_listItems rfl (pv 0) (by rfl) B.list (by decide +kernel)) (pe_lst (pa_cons (pe_tup (pa_cons pe_str (pa_cons pe_int pa_nil))) pa_nil))) pa_nil)))
      (pss_cons (ps_for PassesOwn.never rfl (pi_range1 (by rfl) B.range (pa_cons (pe_op op_add (pe_callB call_lenD (by rfl) B.len PySem.boot_len (pa_cons (pv 7) pa_nil)) pe_int) pa_nil)) (pg_name (i := 8) scLBeat.nd rfl (Or.inl rfl))
        (pss_cons (ps_set (i := 9) scLBeat.nd rfl (Or.inl rfl) (pe_callTy (call_dictP rfl) (by rfl) B.dict (by decide +kernel) (pa_cons (LiI.pe_listItems rfl (pv 7) (by rfl) B.list (by decide +kernel)) pa_nil)))
        (pss_cons (ps_for PassesOwn.never rfl (pi_list (pv 6)) (pg_tup rfl (pgs_cons (pg_name (i := 3) scLBeat.nd rfl (Or.inl rfl)) (pgs_cons (pg_name (i := 4) scLBeat.nd rfl (Or.inl rfl)) pgs_nil)))
          (pss_one (ps_if (pt_cmpR op_ne (pv 3) pe_str (nomark _))
            (pss_one (ps_dput hu (pv 9) (pv 4) (pe_callB (call_max2 rfl) (by rfl) B.max (by decide +kernel) (pa_cons (pe_dget hu (pv 9) (pv 4) (fun _ _ => rfl)) (pa_cons (pe_op op_add (pe_dget hu (pv 7) (pv 3) (fun _ _ => rfl))
              (pe_ifExp (pt_cmpR op_eq (pv 4) pe_str (nomark _)) pe_int (pe_dget hu (pv 0) (pv 4) (fun _ _ => rfl)))) pa_nil))) rfl)) pss_nil)))
        (pss_cons (ps_if (pt_cmpR (op_eqDI hu1) (pv 9) (pv 7) (nomark _)) (pss_one (ps_ret (pe_ifExp (pt_not (pt_val (pe_call G2 hr (by rfl) mg2 F2.kp b2 .nil pass0 (pa_cons (pv 6) pa_nil))))
            (pe_callB (cr_max rfl) (by rfl) B.max (by decide +kernel) (pa_cons (pe_listVals rfl (by rfl) B.list (pv 7)) pa_nil)) pe_non))) pss_nil)
        (pss_one (ps_set (i := 7) scLBeat.nd rfl (Or.inl rfl) (pv 9)))))))
      (pss_one (ps_ret pe_non)))))), ?_⟩
    refine ⟨_, rfl, wl, rfl, ⟨_, hwl⟩, fun q hq0 => lc_each walk_list ws (by rw [List.length_map]; exact hW.length.symm) (by rw [List.length_map, hW.length]; exact Nat.le_trans hl (by decide)) (fun _ => true) (fun w v _ => v = V.int (rg mv w))
      (fun _ _ _ _ _ _ _ _ _ r => r) hq0 (fun H' s => s.seq hwl) ?_ ?_⟩
    · rintro i e x H1 H' acc N hi s hDa hal ⟨rfl, hx⟩ hy hn
      obtain ⟨a, ha, rfl⟩ := ref_get hx
      obtain ⟨e', he', hae⟩ := paired_get hW ha
      cases hi.symm.trans he'
      obtain ⟨i1, o1, g1, v1⟩ := (hM.mono s).get e.2.1
      obtain ⟨i2, o2, g2, v2⟩ := (hM.mono s).get e.1
      refine ⟨a, _, rfl, SqT.of (s _ _ hae), rfl, _, _, rfl, _, _, rfl, _, _, rfl, rfl, rfl, ?_⟩
      refine ⟨_, rfl, _, rfl, m, rfl, i1, _, rfl, o1, g1, _, _, rfl, v1, _, rfl, m, rfl, i2, _, rfl, o2, g2, _, _, rfl, v2, acc, hDa, hal, ?_⟩
      exact hy rfl _ _ (Same.refl _) rfl
    · intro H1 us s1 hq1 hpu
      have hus := paired_eq hpu
      rw [List.filter_eq_self.mpr fun _ _ => rfl] at hus
      have hus2 : us = (regs ws mv).map V.int := by
        rw [hus]
        unfold regs
        rw [List.map_map]
        rfl
      subst hus2
      have hrl : (regs ws mv).length = ws.length := by unfold regs; rw [List.length_map]
      have hasl : as.length = ws.length := hW.length
      refine ⟨_, rfl, Nat.zero_le _, fun z hz => ⟨q, z, _, rfl, rfl, SqL.of ((Same.upd hz) _ _ hq1), SqL.of upd_same, _, rfl, ?_⟩⟩
      have sz := Same.upd (o := .lst []) hz
      have key : ∀ H2, Same H1 H2 → (∀ H', Same H2 H' → ¬ ((regs ws mv).any fun r => decide (r < 0)) = true → Q (optV (lawL ("out" : Str) (ns ++ [("out" : Str)]) d (bareOf ws mv) ((ns ++ [("out" : Str)]).length + 2) d)) H') := fun H2 s2 H' s' hneg => by
        have qq := k H' ((s1.trans s2).trans s')
        unfold beatS at qq
        rw [← law_is (List.mem_append_right _ List.mem_cons_self) hends, if_neg hneg] at qq
        exact qq
      have key0 : ((regs ws mv).any fun r => decide (r < 0)) = true → ∀ H', Same H1 H' → Q .non H' := fun hneg H' s' => by
        have qq := k H' (s1.trans s')
        unfold beatS beatOf at qq
        rw [if_pos hneg] at qq
        exact qq
      have ne_of_any : ((regs ws mv).any fun r => decide (r < 0)) = true → (!((regs ws mv).map V.int).isEmpty) = true := fun h => by
        cases hrw : regs ws mv with
        | nil => rw [hrw] at h; cases h
        | cons a r => rfl
      have emin : ∀ mm, mm ∈ regs ws mv → (∀ y, y ∈ regs ws mv → mm ≤ y) → decide (mm < 0) = (regs ws mv).any fun r => decide (r < 0) := fun mm hm1 hm2 => by
        rw [Bool.eq_iff_iff, decide_eq_true_iff, List.any_eq_true]
        constructor
        · intro h
          exact ⟨mm, hm1, decide_eq_true h⟩
        · rintro ⟨y, hy, hlt⟩
          have := hm2 y hy
          have := of_decide_eq_true hlt
          omega
      have epos : (!((regs ws mv).map V.int).isEmpty) = true → 0 < (regs ws mv).length := fun hc => by
        cases hrw : regs ws mv with
        | nil => rw [hrw] at hc; cases hc
        | cons a r => simp
      by_cases hneg : ((regs ws mv).any fun r => decide (r < 0)) = true
      · show if (!((regs ws mv).map V.int).isEmpty) = true then _ else _
        rw [if_pos (ne_of_any hneg)]
        refine ⟨_, rfl, q, regs ws mv, rfl, SqL.of (sz _ _ hq1), epos (ne_of_any hneg), fun mm hm1 hm2 => ⟨_, _, rfl, rfl, _, rfl, ?_⟩⟩
        rw [emin mm hm1 hm2, hneg]
        exact iteT (key0 hneg _ sz)
      · show if (!((regs ws mv).map V.int).isEmpty) = true then _ else _
        refine join (fun hc hB => ?_) (iteF ?_)
        · refine ⟨_, rfl, q, regs ws mv, rfl, SqL.of (sz _ _ hq1), epos hc, fun mm hm1 hm2 => ⟨_, _, rfl, rfl, _, rfl, ?_⟩⟩
          rw [emin mm hm1 hm2, Bool.eq_false_iff.mpr hneg]
          exact hB
        · skip
          generalize hHz : L2.upd H1 z (.lst []) = Hz at sz
          have hqz := sz _ _ hq1
          have s1z := s1.trans sz
          refine ⟨_, rfl, _, rfl, wl, q, _, _, rfl, s1z.seq hwl, SqL.of hqz, fun D2 hD2 => lc_each (walk_zip (xs := as.map V.ref) (ys := (regs ws mv).map V.int) (n := ws.length) (by rw [List.length_map, List.length_map, hrl, hasl]; exact (Nat.min_self _).symm)) ws rfl
            (Nat.le_trans hl (by decide)) (fun w => decide (rg mv w = 0)) (fun w v H => ∃ p, v = V.ref p ∧ H p = some (.tup (ptup (w.1, w.2.1))))
            (fun e v H H' us us' h1 _ h3 ⟨p, e1, e2⟩ => ⟨p, e1, tup_stays h1 h3 e2⟩) hD2 (fun H' s => ⟨s.seq (s1z.seq hwl), s.seq (SqL.of hqz)⟩) ?_ ?_⟩
          · rintro i w x H3 H' acc N hi s hDa hal ⟨TT, x1, y1, rfl, hTT, rfl, hx1, hy1⟩ hy hn
            obtain ⟨a, ha, rfl⟩ := ref_get hx1
            obtain ⟨w', hw', hae⟩ := paired_get (hW.mono s1z) ha
            cases hi.symm.trans hw'
            have ey : y1 = V.int (rg mv w) := by
              have hr' : (regs ws mv)[i]? = some (rg mv w) := by
                unfold regs
                rw [List.getElem?_map, hi]
                rfl
              have hy2 : ((regs ws mv).map V.int)[i]? = some y1 := hy1
              rw [List.getElem?_map, hr'] at hy2
              exact (Option.some.inj hy2).symm
            subst ey
            have sT := Same.upd (o := .tup [V.ref a, V.int (rg mv w)]) hTT
            have haT := sT _ _ (s _ _ hae)
            refine ⟨TT, _, rfl, SqT.of upd_same, rfl, _, _, rfl, _, _, rfl, rfl, rfl, _, rfl, rfl, _, rfl, ?_⟩
            by_cases hz : rg mv w = 0
            · rw [decide_eq_true (by rw [hz])]
              exact iteT ⟨_, rfl, a, _, 0, .str w.1, rfl, rfl, SqT.of haT, atI_nat (j := 0) rfl, _, rfl, a, _, 1, .str w.2.1, rfl, rfl, SqT.of haT, atI_nat (j := 1) rfl, (by show 2 ≤ sizeLine; decide), fun p hp' => ⟨acc, (Same.upd' sT hp') _ _ hDa, hal, hy (decide_eq_true hz) _ _ (Same.upd' sT hp') ⟨p, rfl, upd_same⟩⟩⟩
            · rw [decide_eq_false (by intro z; injection z with z; exact hz z)]
              exact iteF (hn (decide_eq_false hz) _ sT)
          · intro H3 us s3 hDb hpu
            obtain ⟨bs, rfl, hbs0⟩ := refs_of hpu
            have hbs := pairs_bare hbs0
            have hbl : (bareOf ws mv).length ≤ 1000 := by
              unfold bareOf
              rw [List.length_map]
              exact Nat.le_trans (List.length_filter_le _ _) hl
            have s1b := s1z.trans s3
            have kb := key H3 (sz.trans s3)
            refine ⟨_, rfl, dl, _, rfl, s1b _ _ hdl, fun Ha l1 ts sA hl1 hts hnot hL hT => ?_⟩
            refine ⟨(by show 2 ≤ sizeLine; decide), fun t2 ht2 => ⟨(by show 1 ≤ sizeLine; decide), fun l2 hl2 => ?_⟩⟩
            have sB := Same.upd (o := .tup [V.str "out", V.int 0]) ht2
            have sC := Same.upd (o := .lst [V.ref t2]) hl2
            have htn : ts.length = ns.length := by rw [hT.length, DI_length]
            refine ⟨l1, l2, _, _, rfl, rfl, sC _ _ (sB _ _ hL), upd_same, (by rw [List.length_map, htn]; exact Nat.le_trans (Nat.add_le_add hnl (Nat.le_refl 1)) (by decide)), fun p3 hp3 => ?_⟩
            have sD := Same.upd (o := .lst (ts.map V.ref ++ [V.ref t2])) hp3
            have sA : Same H3 Ha := sA
            have sAll := ((sA.trans sB).trans sC).trans sD
            refine ⟨p3, ts ++ [t2], DI (ns ++ [("out" : Str)]) d, rfl, SqL.of (by rw [upd_same]; simp), ?_, fun bst hbst => ?_⟩
            · rw [DI_append]
              refine Paired.snoc (Paired.mapP hT fun t kv e => SqT.of (sD _ _ (sC _ _ (sB _ _ e)))) ?_
              refine SqT.of (sD _ _ (sC _ _ ?_))
              rw [upd_same]
              show some (HO.tup [V.str "out", V.int 0]) = some (HO.tup [V.str "out", V.int (d ("out" : Str))])
              rw [hdo]
            · rw [merge_DI hnd]
              generalize hks : (ns ++ [("out" : Str)] : List Str) = ks at *
              have hkl : ks.length ≤ 101 := by rw [← hks, List.length_append, List.length_singleton]; omega
              have hout : ("out" : Str) ∈ ks := by rw [← hks]; exact List.mem_append_right _ List.mem_cons_self
              have sE := sAll.trans (Same.upd (o := .dK (DI ks d)) hbst)
              have hb0 : L2.upd (L2.upd (L2.upd (L2.upd Ha t2 (.tup [V.str "out", V.int 0])) l2 (.lst [V.ref t2])) p3 (.lst (ts.map V.ref ++ [V.ref t2]))) bst (.dK (DI ks d)) bst = some (.dK (DI ks d)) := upd_same
              generalize L2.upd (L2.upd (L2.upd (L2.upd Ha t2 (.tup [V.str "out", V.int 0])) l2 (.lst [V.ref t2])) p3 (.lst (ts.map V.ref ++ [V.ref t2]))) bst (.dK (DI ks d)) = H5 at *
              have hD5 := sE _ _ hDb
              have hbs5 := PairsAt.mono sE hbs
              have hdl5 := sE _ _ (s1b _ _ hdl)
              have kb5 : ∀ H', Same H5 H' → Q (optV (lawL ("out" : Str) ks d (bareOf ws mv) (ks.length + 2) d)) H' := fun H' s' => kb H' (sE.trans s') hneg
              refine ⟨_, rfl, bst, _, rfl, hb0, _, _, rfl, rfl, _, rfl, (by omega), (by rw [DI_length]; omega), for_range (fun i σ H' => ∃ (v3 v4 v8 v9 : Option V) (b' : Addr) (x : Str → Int), σ = [some (.ref dl), some (.ref wl), some (.ref m), v3, v4, some (.ref q), some (.ref D2), some (.ref b'), v8, v9, none, none] ∧ Same H5 H' ∧ H' b' = some (.dK (DI ks x)) ∧
                  lawL ("out" : Str) ks d (bareOf ws mv) (ks.length + 2 - i) x = lawL ("out" : Str) ks d (bareOf ws mv) (ks.length + 2) d) ⟨none, none, none, none, bst, d, rfl, Same.refl _, hb0, rfl⟩ ?_ ?_⟩
              · rintro i σ H6 hi ⟨v3, v4, v8, v9, b', x, rfl, s6, hb6, hlaw⟩
                have hi' : i < ks.length + 2 := by
                  rw [DI_length] at hi
                  omega
                obtain ⟨n', hn'⟩ : ∃ n', ks.length + 2 - i = n' + 1 := ⟨ks.length + 1 - i, by omega⟩
                rw [hn'] at hlaw
                have hn2 : ks.length + 2 - (i + 1) = n' := by omega
                refine ⟨_, rfl, b', _, rfl, hb6, fun Hb l4 us4 sF hl4 hts4 hnot4 hL4 hT4 => ⟨l4, us4, DI ks x, rfl, SqL.of hL4, Paired.mapP hT4 fun t kv e => SqT.of e, fun lt hlt => ?_⟩⟩
                have sF : Same H6 Hb := sF
                rw [merge_DI hnd]
                have hnlt : Hb lt = none := hlt
                have hltG : L2.upd Hb lt (.dK (DI ks x)) lt = some (.dK (DI ks x)) := upd_same
                have sG := sF.trans (Same.upd (o := .dK (DI ks x)) hlt)
                have s5lt : H5 lt = none := s6.free (sF.free hnlt)
                have nb : b' ≠ lt := ne_of_none (sF _ _ hb6) hnlt
                generalize L2.upd Hb lt (.dK (DI ks x)) = HG at *
                have s5G := s6.trans sG
                have nD : D2 ≠ lt := ne_of_none hD5 s5lt
                have ndl : dl ≠ lt := ne_of_none hdl5 s5lt
                refine ⟨_, rfl, D2, rfl, ⟨_, SqL.of (s5G _ _ hD5)⟩, for_it walk_list (fun j σ H' => ∃ (v3 v4 v8 : Option V), σ = [some (.ref dl), some (.ref wl), some (.ref m), v3, v4, some (.ref q), some (.ref D2), some (.ref b'), v8, some (.ref lt), none, none] ∧ SameB lt HG H' ∧
                    H' lt = some (.dK (DI ks (((bareOf ws mv).take j).foldl (lrelax ("out" : Str) d x) x)))) ⟨_, _, _, rfl, fun _ _ _ e => e, hltG⟩ (fun j σ H' _ ⟨_, _, _, _, sb, _⟩ => SqL.of (sb _ _ nD (s5G _ _ hD5))) ?_ ?_⟩
                · rintro j y σ H8 H8' hj ⟨v3, v4, v8, rfl, sb8, hf8⟩ ⟨rfl, hx⟩
                  obtain ⟨a, ha, rfl⟩ := ref_get hx
                  obtain ⟨e, he, hae⟩ := paired_get hbs5 ha
                  have nae : a ≠ lt := ne_of_none hae s5lt
                  have hmem : e ∈ bareOf ws mv := List.mem_of_getElem? he
                  have hek := ends_bare (mv := mv) hends e hmem
                  have etake : (bareOf ws mv).take (j + 1) = (bareOf ws mv).take j ++ [e] := by rw [List.take_succ, he]; rfl
                  generalize hg : ((bareOf ws mv).take j).foldl (lrelax ("out" : Str) d x) x = g at hf8
                  have enext : ((bareOf ws mv).take (j + 1)).foldl (lrelax ("out" : Str) d x) x = lrelax ("out" : Str) d x g e := by
                    rw [etake, List.foldl_append, hg]
                    rfl
                  have hb8 := sb8 _ _ nb (sG _ _ hb6)
                  have hdl8 := sb8 _ _ ndl (s5G _ _ hdl5)
                  refine ⟨a, _, rfl, SqT.of (sb8 _ _ nae (s5G _ _ hae)), rfl, _, _, rfl, _, _, rfl, rfl, _, rfl, rfl, _, rfl, ?_⟩
                  by_cases h1 : e.1 = ("out" : Str)
                  · rw [decide_eq_true (by rw [h1])]
                    refine iteF ⟨_, _, _, rfl, sb8, ?_⟩
                    rw [enext, hf8]
                    unfold lrelax
                    rw [if_neg (fun z => z h1)]
                  · rw [decide_eq_false (by intro z; injection z with z; exact h1 z)]
                    refine iteT ?_
                    refine ⟨_, rfl, _, rfl, lt, _, rfl, get_DI hf8 hek.2, ?_⟩
                    refine ⟨_, rfl, _, rfl, b', _, rfl, get_DI hb8 hek.1, ?_⟩
                    refine ⟨_, rfl, rfl, _, rfl, ?_⟩
                    have tail : ∀ z : Int, z = d e.2 → L2.upd H8' lt (.dK (putK (DI ks g) (Sum.inr e.2) (.int (if x e.1 + z > g e.2 then x e.1 + z else g e.2)))) lt = some (.dK (DI ks (((bareOf ws mv).take (j + 1)).foldl (lrelax ("out" : Str) d x) x))) := fun z hz => by
                      rw [upd_same, enext, put_DI hek.2]
                      unfold lrelax
                      rw [if_pos h1]
                      have : (if x e.1 + z > g e.2 then x e.1 + z else g e.2) = max (g e.2) (x e.1 + d e.2) := by
                        rw [hz]
                        by_cases hlt : x e.1 + d e.2 > g e.2
                        · rw [if_pos hlt]; omega
                        · rw [if_neg hlt]; omega
                      rw [this]
                    have hlen8 : (DI ks g).length < sizeLine := by rw [DI_length]; exact Nat.lt_of_le_of_lt hkl (by decide)
                    by_cases h2 : e.2 = ("out" : Str)
                    · rw [decide_eq_true (by rw [h2])]
                      exact iteT ⟨_, _, rfl, rfl, _, _, rfl, _, rfl, _, rfl, lt, _, rfl, DPut.k (k := Sum.inr e.2) hf8 hlen8, _, _, _, rfl, fun b o hb hbo => by rw [upd_ne hb]; exact sb8 b o hb hbo, tail 0 (by rw [h2, hdo])⟩
                    · rw [decide_eq_false (by intro z; injection z with z; exact h2 z)]
                      have hin : e.2 ∈ ns := by
                        have := hek.2
                        rw [← hks] at this
                        rcases List.mem_append.mp this with z | z
                        · exact z
                        · exact absurd (List.mem_singleton.mp z) h2
                      exact iteF ⟨_, rfl, _, rfl, dl, _, rfl, get_DI hdl8 hin, _, _, rfl, rfl, _, _, rfl, _, rfl, _, rfl, lt, _, rfl, DPut.k (k := Sum.inr e.2) hf8 hlen8, _, _, _, rfl, fun b o hb hbo => by rw [upd_ne hb]; exact sb8 b o hb hbo, tail _ rfl⟩
                · rintro σ H8 ⟨v3, v4, v8, rfl, sb8, hf8⟩
                  have hlb : (bs.map V.ref).length = (bareOf ws mv).length := by rw [List.length_map]; exact hbs.length
                  rw [hlb, List.take_length] at hf8
                  have hf8 : H8 lt = some (.dK (DI ks (lround ("out" : Str) d (bareOf ws mv) x))) := hf8
                  have hb8 := sb8 _ _ nb (sG _ _ hb6)
                  have s58 : Same H5 H8 := fun b o e => sb8 _ _ (ne_of_none e s5lt) (s5G _ _ e)
                  refine ⟨_, rfl, _, rfl, lt, b', ks, _, x, rfl, rfl, hf8, hb8, _, rfl, ?_⟩
                  by_cases hst : ∀ k ∈ ks, lround ("out" : Str) d (bareOf ws mv) x k = x k
                  · rw [show (ks.all fun k => decide (lround ("out" : Str) d (bareOf ws mv) x k = x k)) = true from List.all_eq_true.mpr fun k hk => decide_eq_true (hst k hk)]
                    rw [lawL_stop hst] at hlaw
                    refine iteT ⟨_, rfl, D2, bs, bareOf ws mv, rfl, SqL.of (s58 _ _ hD5), PairsAt.mono s58 hbs5, hbl, fun H9 s9 => ⟨_, rfl, ?_⟩⟩
                    by_cases hring : ring (inner ("out" : Str) (bareOf ws mv)) = true
                    · rw [if_pos hring] at hlaw
                      rw [hring]
                      refine iteF ?_
                      have qq := kb5 H9 (s58.trans s9)
                      rw [← hlaw] at qq
                      exact qq
                    · rw [if_neg hring] at hlaw
                      rw [Bool.eq_false_iff.mpr hring]
                      refine iteT ⟨_, rfl, b', _, rfl, s9 _ _ hb8, fun p4 hp4 => ⟨p4, ks.map x, rfl, SqL.of (by rw [upd_same]; unfold DI; rw [List.map_map, List.map_map]; rfl), (by rw [List.length_map]; exact List.length_pos_of_mem hout), fun mm h1 h2 => ?_⟩⟩
                      have qq := kb5 _ ((s58.trans s9).trans (Same.upd (o := .lst ((DI ks x).map (·.2))) hp4))
                      rw [← hlaw, ← maxL_of h1 h2] at qq
                      exact qq
                  · rw [show (ks.all fun k => decide (lround ("out" : Str) d (bareOf ws mv) x k = x k)) = false from by
                      rw [Bool.eq_false_iff]
                      intro z
                      exact hst fun k hk => of_decide_eq_true (List.all_eq_true.mp z k hk)]
                    rw [lawL_step hst] at hlaw
                    refine iteF ⟨_, rfl, _, _, _, _, lt, _, rfl, s58, hf8, ?_⟩
                    rw [hn2]
                    exact hlaw
              · rintro σ H6 ⟨v3, v4, v8, v9, b', x, rfl, s6, hb6, hlaw⟩
                rw [DI_length, show ks.length + 2 - ((ks.length : Int) + 2).toNat = 0 by omega] at hlaw
                have qq := kb5 H6 s6
                rw [← hlaw] at qq
                exact qq
end
end Bw

/-! #### D7 -/
set_option Elab.async false
set_option linter.all false
set_option maxRecDepth 100000
set_option maxHeartbeats 4000000
namespace Bw
open PySem PySem.Spec PyProof.Rows L2
/-- what the text says of BadPlan / NoPlacing, own classes over BeatError over ValueError -/
structure XTxt (K : PySem.W.Frag) (mg : Str → Option Value) (x : Str) (CB : Addr) : Prop where
  mgx : mg x = some (.ref CB)
  xP : PySem.W.excIn K CB [.type "ValueError", .type "Exception", .type "BaseException", .type "object"] "ValueError.__new__" = true
  kP : PySem.W.keepIn K (.ref CB) = true
  bP : PySem.W.subIn K (.ref CB) (.type "BaseException") = some true
  tP : PySem.W.typeIn K (.ref CB) = some (.type "type")
  eP : PySem.W.exmOne K (.ref CB) (.ref CB) = some true
/-- what the text says of the class Plan, for isinstance -/
structure ITxt (K : PySem.W.Frag) (mg : Str → Option Value) (C : Addr) : Prop where
  mgC : mg "Plan" = some (.ref C)
  ha : PySem.W.findIn K (.ref C) "__class__" = some (some (.builtin "object.__class__"))
  hn : PySem.W.specialIn K (.builtin "object.__class__") "__get__" = some (some (.builtin "getset_descriptor.__get__"))
  htk : PySem.W.takesIn K (.builtin "object.__class__") = some true
  hm : PySem.W.mroIn K C (.type "object") = some true
  yes : PySem.W.kitOne K (.ref C) (.ref C) = some true
  no : PySem.W.kitOne K (.type "int") (.ref C) = some false
section
variable {P : Program} {w : World} {K : PySem.W.Frag} {mg : Str → Option Value} {base : Heap}
/-! ### check_plan -/
def spCheck (C CB : Addr) : Sp := fun vs H Q E => (∃ p dx fs, vs = [.ref p] ∧ H p = some (.ins C dx fs) ∧ Q .non H) ∨ (∃ i, vs = [.int i] ∧ E (.ref CB) none H)
theorem scCheck : FnScope ["thing"] ["thing"] (defScope sCheck) := ⟨rfl, rfl, rfl, by decide +kernel, rfl, by decide +kernel, by decide +kernel⟩
theorem ok_check {f C CB : Addr} {fd : FuncData} (F : Fun K "check_plan" "check_plan" sCheck f fd) (B : Bt mg) (T : PTxt K C) (I : ITxt K mg C) (XB : XTxt K mg "BadPlan" CB) : FnOk P w K mg base (L2.CX P w) 1 f fd ["thing"] (spCheck C CB) := by
  refine F.okX scCheck (fun vs H Q E h => ?_) (fun cdv A outer s H vs Q E hr h => ?_)
  · rcases h with ⟨p, dx, fs, rfl, _⟩ | ⟨i, rfl, _⟩ <;> rfl
  · refine ⟨_, pss_one (ps_if (pt_not (pt_val (pe_callB call_isi (by rfl) B.isinstance (by decide +kernel) (pa_cons (pv 0) (pa_cons (pe_glob (v := .ref C) (by rfl) I.mgC rfl) pa_nil)))))
      (pss_one (ps_raise rfl (takes_of rfl rfl rfl rfl) (pmk_own PySem.F.excBase_ValueError XB.xP XB.mgx XB.kP (raises_own XB.bP XB.tP) rfl))) pss_nil), ?_⟩
    rcases h with ⟨p, dx, fs, rfl, hp, k⟩ | ⟨i, rfl, k⟩
    · exact ⟨_, rfl, _, _, _, _, true, rfl, .own _, .base (.ins hp T.cl I.ha I.hn I.htk I.hm), I.yes, _, rfl, iteF k⟩
    · exact ⟨_, rfl, _, _, _, _, false, rfl, .own _, .base (.int _), I.no, _, rfl, iteT k⟩
/-! ### __eq__ -/
def spEq (C : Addr) : Sp := fun vs H Q _ => ∃ (p q dl wt dl2 wt2 : Addr) (ks : List Str) (d d2 : Str → Int) (as bs : List Addr) (ws ws2 : List WireS), vs = [.ref p, .ref q] ∧ PlanAt C H p dl wt ks d as ws ∧ PlanAt C H q dl2 wt2 ks d2 (as ++ bs) ws2 ∧ dl ≠ dl2 ∧
  ∀ H', Same H H' → Q (.bl ((ks.all fun k => decide (d k = d2 k)) && bs.isEmpty)) H'
theorem scPEq : FnScope ["self", "other"] ["self", "other"] (defScope sPEq) := ⟨rfl, rfl, rfl, by decide +kernel, rfl, by decide +kernel, by decide +kernel⟩
theorem ok_peq {f C : Addr} {fd : FuncData} (F : Fun K "__eq__" "Plan.__eq__" sPEq f fd) (B : Bt mg) (T : PTxt K C) (I : ITxt K mg C) : FnOk P w K mg base CX0 1 f fd ["self", "other"] (spEq C) := by
  refine F.ok scPEq (fun vs H Q E h => ?_) (fun cdv A outer s H vs Q E hr h => ?_)
  · obtain ⟨p, q, dl, wt, dl2, wt2, ks, d, d2, as, bs, ws, ws2, rfl, _⟩ := h
    rfl
  · obtain ⟨p, q, dl, wt, dl2, wt2, ks, d, d2, as, bs, ws, ws2, rfl, hP, hP2, nd, k⟩ := h
    refine ⟨_, pss_one (ps_ret (pe_and (pe_callB call_isi (by rfl) B.isinstance (by decide +kernel) (pa_cons (pv 1) (pa_cons (pe_glob (v := .ref C) (by rfl) I.mgC rfl) pa_nil)))
      (pe_one (pe_cmpR (op_eqPlan hr.units) (pe_tup (pa_cons (pe_fld (pv 0) rfl) (pa_cons (pe_fld (pv 0) rfl) pa_nil))) (pe_tup (pa_cons (pe_fld (pv 1) rfl) (pa_cons (pe_fld (pv 1) rfl) pa_nil))) (nomark _))))), ?_⟩
    obtain ⟨⟨dx, h1⟩, h2, h3, h4⟩ := hP
    obtain ⟨⟨dx2, g1⟩, g2, g3, g4⟩ := hP2
    refine ⟨_, rfl, _, _, _, _, true, rfl, .own _, .base (.ins g1 T.cl I.ha I.hn I.htk I.hm), I.yes, _, rfl, iteT ?_⟩
    refine ⟨_, rfl, p, C, dx, _, _, rfl, h1, T.cl, T.nD, pfs_delays _ _, _, rfl, p, C, dx, _, _, rfl, h1, T.cl, T.nW, pfs_wires _ _, (by show 2 ≤ sizeLine; decide), fun t1 ht1 => ?_⟩
    have s1 := Same.upd (o := .tup [V.ref dl, V.ref wt]) ht1
    refine ⟨_, rfl, q, C, dx2, _, _, rfl, s1 _ _ g1, T.cl, T.nD, pfs_delays _ _, _, rfl, q, C, dx2, _, _, rfl, s1 _ _ g1, T.cl, T.nW, pfs_wires _ _, (by show 2 ≤ sizeLine; decide), fun t2 ht2 => ?_⟩
    have s2 := Same.upd (o := .tup [V.ref dl2, V.ref wt2]) ht2
    exact ⟨t1, t2, dl, dl2, wt, wt2, as, bs, ks, d, d2, rfl, rfl, s2 _ _ upd_same, upd_same, nd, s2 _ _ (s1 _ _ h2), s2 _ _ (s1 _ _ g2), SqT.of (s2 _ _ (s1 _ _ h3)), SqT.of (s2 _ _ (s1 _ _ g3)), k _ (s1.trans s2)⟩
end
end Bw

/-! #### D8 -/
set_option Elab.async false
set_option linter.all false
set_option maxRecDepth 100000
set_option maxHeartbeats 4000000
namespace Bw
open PySem PySem.Spec PyProof.Rows L2
/-- a for over what is a list or a tuple -/
theorem for_seq {K : PySem.W.Frag} {j : Nat} {a : Addr} {xs : List V} {g : TG} {tb : TS} {D : Ends} {σ : L2.St} {H : Hp} (hv : σ[j]? = some (some (.ref a))) (hq : SqL K H a xs ∨ SqT K H a xs) (Pv : Nat → L2.St → Hp → Prop) (h0 : Pv 0 σ H)
    (hG : ∀ i σ H', i ≤ xs.length → Pv i σ H' → Same H H')
    (hs : ∀ i x σ H H', i < xs.length → Pv i σ H → YAt xs i H x H' → g x σ H' fun σ2 H2 => tb { D with nx := Pv (i + 1), ct := Pv (i + 1), bk := D.nx } σ2 H2) (hd : ∀ σ H, Pv xs.length σ H → D.nx σ H) :
    (fun (R : It → Hp → Prop) => iList K (tVar j) σ H R ∨ iTup K (tVar j) σ H R) (fun J H1 => ∃ W : Nat → Nat → L2.St → Hp → Prop, (∃ m, W 0 m σ H1) ∧ ∀ i m σ H, W i m σ H →
      (J.stop i H ∧ D.nx σ H) ∨ (J.go i H ∧ ∃ N : L2.St → Hp → Prop, (∀ σ' H', N σ' H' → ∃ m', m' < m ∧ W (i + 1) m' σ' H') ∧ ∀ x H', J.yld i H x H' → g x σ H' fun σ2 H2 => tb { D with nx := N, ct := N, bk := D.nx } σ2 H2)) := by
  rcases hq with hq | hq
  · exact .inl ⟨_, hv, a, rfl, ⟨xs, hq⟩, for_it walk_list Pv h0 (fun i σ H' hi p => (hG i σ H' hi p).seq hq) hs hd⟩
  · exact .inr ⟨_, hv, a, rfl, ⟨xs, hq⟩, for_it walk_tup Pv h0 (fun i σ H' hi p => by
      rcases hq with (h | ⟨o, h⟩) | h
      · exact .inl (.inl (hG i σ H' hi p _ _ h))
      · exact .inl (.inr ⟨o, hG i σ H' hi p _ _ h⟩)
      · exact .inr h) hs hd⟩
section
variable {P : Program} {w : World} {K : PySem.W.Frag} {mg : Str → Option Value} {base : Heap}
abbrev nPInit : List Str := ["self", "delays", "wires", "known", "wire", "name", "one"]
theorem scPInit : FnScope nPInit ["self", "delays", "wires"] (defScope sPInit) := ⟨rfl, rfl, rfl, by decide +kernel, rfl, by decide +kernel, by decide +kernel⟩
/-! ### what is asked of delays and wires -/
abbrev Dl := List (Str × V)
def kvsD (l : Dl) : List (Key × V) := l.map fun kv => (Sum.inr kv.1, kv.2)
def okV : V → Bool
  | .int i => if decide ((0 : Int) ≤ i) = true then decide (i ≤ 1000) else false
  | _ => false
def dOf (l : Dl) (k : Str) : Int := match valV (kvsD l) (Sum.inr k) with
  | some (.int i) => i
  | _ => 0
def okD (l : Dl) : Bool := decide ((1 : Int) ≤ (l.length : Int)) && decide ((l.length : Int) ≤ 12) && l.all (fun kv => isWord kv.1) && l.all (fun kv => okV kv.2) && decide (dOf l "out" = 0)
def knS (l : Dl) : List Str := if ("out" : Str) ∈ l.map (·.1) then l.map (·.1) else l.map (·.1) ++ [("out" : Str)]
def okWire (kn : List Str) : Option WireS → Bool
  | some w => decide ((0 : Int) ≤ w.2.2) && decide (w.2.2 ≤ 20) && decide (w.1 ∈ kn) && decide (w.2.1 ∈ kn)
  | none => false
def wsOf (items : List (Option WireS)) : List WireS := items.filterMap id
def okW (kn : List Str) (items : List (Option WireS)) : Bool := decide ((items.length : Int) ≤ 40) && items.all (okWire kn)
def zeros : Str → Int := fun _ => 0
def okPlan : Option Dl → Option (List (Option WireS)) → Bool
  | some l, some items => okD l && okW (knS l) items && (beatS (knS l) (dOf l) (wsOf items) zeros).isSome
  | _, _ => false
def DelAt (H : Hp) (v : V) : Option Dl → Prop
  | none => v = .non
  | some l => ∃ a, v = .ref a ∧ H a = some (.dK (kvsD l)) ∧ (l.map (·.1)).Nodup ∧ (∀ kv ∈ l, Plain kv.2) ∧ (∀ kv ∈ l, kv.1.length ≤ 1000) ∧ l.length ≤ 50
def WItem (H : Hp) (a : Addr) : Option WireS → Prop
  | some w => H a = some (.tup (wtup w))
  | none => ∃ xs, H a = some (.lst xs)
def WirAt (H : Hp) (v : V) (as : List Addr) : Option (List (Option WireS)) → Prop
  | none => v = .non
  | some items => ∃ a, v = .ref a ∧ (H a = some (.lst (as.map V.ref)) ∨ H a = some (.tup (as.map V.ref))) ∧ Paired (fun a o => WItem H a o) as items ∧ items.length ≤ 1000
def spPInit (C CB : Addr) : Sp := fun vs H Q E => ∃ (p dx : Addr) (dv wv : V) (H0 : Hp) (D : Option Dl) (as : List Addr) (W : Option (List (Option WireS))), vs = [.ref p, dv, wv] ∧ H p = some (.ins C dx []) ∧ Same H0 H ∧ H0 p = none ∧
  DelAt H0 dv D ∧ WirAt H0 wv as W ∧ (okPlan D W = false → ∀ H', Same H0 H' → E (.ref CB) none H') ∧
  (∀ l items, D = some l → W = some items → okPlan D W = true → ∀ ks, ks.Perm (knS l) → sortedS ks = true → ∀ H' dl wt, Same H0 H' → H0 dl = none → PlanAt C H' p dl wt ks (dOf l) as (wsOf items) → Q .non H')
theorem kvsD_len (l : Dl) : (kvsD l).length = l.length := List.length_map _
theorem valV_kvsD : ∀ {l : Dl} {kv : Str × V}, (l.map (·.1)).Nodup → kv ∈ l → valV (kvsD l) (Sum.inr kv.1) = some kv.2
  | b :: r, kv, hn, h => by
    rw [List.map_cons, List.nodup_cons] at hn
    unfold kvsD
    rw [List.map_cons]
    rcases List.mem_cons.mp h with e | e
    · subst e
      exact valV_pos rfl
    · have ne : ¬ ((Sum.inr b.1 : Key) = Sum.inr kv.1) := fun z => hn.1 (by rw [Sum.inr.inj z]; exact List.mem_map_of_mem e)
      rw [valV_neg ne]
      exact valV_kvsD hn.2 e
theorem valV_kvsD_none {l : Dl} {k : Str} (h : k ∉ l.map (·.1)) : valV (kvsD l) (Sum.inr k) = none := by
  induction l with
  | nil => rfl
  | cons b r ih =>
    rw [List.map_cons, List.mem_cons, not_or] at h
    unfold kvsD
    rw [List.map_cons, valV_neg (fun z => h.1 (Sum.inr.inj z).symm)]
    exact ih h.2
theorem dOf_mem {l : Dl} {kv : Str × V} (hn : (l.map (·.1)).Nodup) (h : kv ∈ l) {i : Int} (e : kv.2 = .int i) : dOf l kv.1 = i := by
  unfold dOf
  rw [valV_kvsD hn h, e]
theorem dOf_none {l : Dl} {k : Str} (h : k ∉ l.map (·.1)) : dOf l k = 0 := by
  unfold dOf
  rw [valV_kvsD_none h]
theorem getD_dOf {l : Dl} (hn : (l.map (·.1)).Nodup) (hi : ∀ kv ∈ l, ∃ i, kv.2 = V.int i) (k : Str) : (valV (kvsD l) (Sum.inr k)).getD (.int 0) = .int (dOf l k) := by
  by_cases h : k ∈ l.map (·.1)
  · obtain ⟨kv, hm, rfl⟩ := List.mem_map.mp h
    obtain ⟨i, e⟩ := hi kv hm
    rw [dOf_mem hn hm e, valV_kvsD hn hm, e]
    rfl
  · rw [dOf_none h, valV_kvsD_none h]
    rfl
theorem kvsD_DI {l : Dl} (hn : (l.map (·.1)).Nodup) (hi : ∀ kv ∈ l, ∃ i, kv.2 = V.int i) : kvsD l = DI (l.map (·.1)) (dOf l) := by
  unfold kvsD DI
  rw [List.map_map]
  refine List.map_congr_left fun kv hm => ?_
  obtain ⟨i, e⟩ := hi kv hm
  show (Sum.inr kv.1, kv.2) = (Sum.inr kv.1, V.int (dOf l kv.1))
  rw [dOf_mem hn hm e, e]
theorem put_known {l : Dl} (h0 : dOf l "out" = 0) : putK (DI (l.map (·.1)) (dOf l)) (Sum.inr "out") (.int 0) = DI (knS l) (dOf l) := by
  unfold knS
  by_cases h : ("out" : Str) ∈ l.map (·.1)
  · rw [if_pos h, put_DI h]
    refine DI_congr fun k _ => ?_
    by_cases e : k = "out"
    · subst e
      rw [updf_same, h0]
    · rw [updf_ne e]
  · rw [if_neg h]
    have ha : ¬ ((DI (l.map (·.1)) (dOf l)).any fun kv => decide (kv.1 = (Sum.inr "out" : Key))) = true := by
      rw [valV_any, valV_DI_none h]
      decide
    unfold putK
    rw [if_neg ha]
    unfold DI
    rw [List.map_append]
    congr 1
    show [((Sum.inr "out" : Key), V.int 0)] = [((Sum.inr "out" : Key), V.int (dOf l "out"))]
    rw [h0]
theorem knS_nodup {l : Dl} (hn : (l.map (·.1)).Nodup) : (knS l).Nodup := by
  unfold knS
  by_cases h : ("out" : Str) ∈ l.map (·.1)
  · rw [if_pos h]; exact hn
  · rw [if_neg h, List.nodup_append]
    refine ⟨hn, by simp, fun x hx y hy e => ?_⟩
    rw [List.mem_singleton] at hy
    subst e hy
    exact h hx
theorem knS_out (l : Dl) : ("out" : Str) ∈ knS l := by
  unfold knS
  by_cases h : ("out" : Str) ∈ l.map (·.1)
  · rw [if_pos h]; exact h
  · rw [if_neg h]; exact List.mem_append_right _ List.mem_cons_self
theorem knS_len (l : Dl) : (knS l).length ≤ l.length + 1 := by
  unfold knS
  by_cases h : ("out" : Str) ∈ l.map (·.1)
  · rw [if_pos h, List.length_map]; exact Nat.le_succ _
  · rw [if_neg h, List.length_append, List.length_map]; exact Nat.le_refl _
theorem beat_perm {ks ls : List Str} {d : Str → Int} {ws : List WireS} {mv : Str → Int} (h : ks.Perm ls) : beatS ks d ws mv = beatS ls d ws mv := by
  unfold beatS beatOf
  rw [h.length_eq]
  congr 2
  exact congrArg some (maxL_congr fun y => (h.map _).mem_iff)
theorem mem_wsOf {items : List (Option WireS)} {w : WireS} (h : w ∈ wsOf items) : some w ∈ items := by
  obtain ⟨o, ho, e⟩ := List.mem_filterMap.mp h
  have : o = some w := e
  rw [← this]
  exact ho
theorem wires_of {H : Hp} {kn : List Str} : ∀ {as : List Addr} {items : List (Option WireS)}, Paired (fun a o => WItem H a o) as items → items.all (okWire kn) = true → WiresAt H as (wsOf items)
  | _, _, .nil, _ => .nil
  | _, _, @Paired.cons _ _ _ a o as items h t, hall => by
    rw [List.all_cons, Bool.and_eq_true] at hall
    cases o with
    | none => cases hall.1
    | some w => exact .cons h (wires_of t hall.2)
theorem wsOf_le (items : List (Option WireS)) : (wsOf items).length ≤ items.length := List.length_filterMap_le _ _
theorem okWire_some {kn : List Str} {w : WireS} : okWire kn (some w) = (decide ((0 : Int) ≤ w.2.2) && decide (w.2.2 ≤ 20) && decide (w.1 ∈ kn) && decide (w.2.1 ∈ kn)) := rfl
theorem all_keys {a : Addr} {l : Dl} {j m : Nat} {te : TE} {σ : L2.St} {H : Hp} {Q : VK} (hv : σ[j]? = some (some (.ref a))) (hjm : j ≠ m) (ha : H a = some (.dK (kvsD l))) (hlen : l.length ≤ 50) (F : Str × V → Bool)
    (step : ∀ od kv H' acc (N : Hp → Prop) (D : Addr), kv ∈ l → Same (L2.upd H a (.frz od (.dK (kvsD l)))) H' → H' D = some (.lst acc) → acc.length < sizeLine → (∀ H4, Same H' H4 → N (L2.upd H4 D (.lst (acc ++ [.bl (F kv)])))) →
      te ((wipe σ [m]).set m (some (.str kv.1))) H' fun y H4 => ∃ acc, H4 D = some (.lst acc) ∧ acc.length < sizeLine ∧ N (L2.upd H4 D (.lst (acc ++ [y]))))
    (hd : ∀ D H', Same H H' → H' D = some (.lst (l.map fun kv => V.bl (F kv))) → Q (.ref D) H') :
    tLockE (tLc (iKeys (tVar j)) (gName m) tYes te [m]) σ H Q := by
  refine ⟨a, _, ha, True.intro, fun od => ⟨_, hv, a, od, rfl, .inl ⟨kvsD l, upd_same, fun D hD => lc_each walk_keys l (kvsD_len l).symm (by rw [kvsD_len]; exact Nat.le_trans hlen (by decide)) (fun _ => true) (fun kv v _ => v = .bl (F kv))
    (fun _ _ _ _ _ _ _ _ _ r => r) hD (fun H' s => s _ _ upd_same) ?_ ?_⟩⟩⟩
  · rintro i kv x H1 H' acc N hi s hDa hal ⟨rfl, k', v', hk, rfl⟩ hy hn
    have ek : kV k' = V.str kv.1 := by
      unfold kvsD at hk
      rw [List.getElem?_map, hi] at hk
      have h1 : Sum.inr kv.1 = k' := congrArg Prod.fst (Option.some.inj hk)
      rw [← h1]
      rfl
    rw [ek]
    refine ⟨by simp [wipe, List.set_set], ?_⟩
    exact step od kv H' acc N D (List.mem_of_getElem? hi) s hDa hal fun H4 s4 => hy rfl _ _ s4 rfl
  · intro H1 us s hDa hpu
    have e := paired_eq hpu
    rw [List.filter_eq_self.mpr fun _ _ => rfl] at e
    subst e
    have hl := s _ _ (upd_same (H := H) (a := a) (o := .frz od (.dK (kvsD l))))
    refine ⟨hl, hd D _ (Same.lock s ha) ?_⟩
    rw [upd_ne (ne_of hDa hl (by intro z; cases z))]
    exact hDa
theorem ok_pinit {f C CB f1 f2 f3 : Addr} {fd fd1 fd2 fd3 : FuncData} (F : Fun K "__init__" "Plan.__init__" sPInit f fd) (B : Bt mg) (T : PTxt K C) (hO : ∃ t, mg "OUT" = some (.str "out" t)) (XB : XTxt K mg "BadPlan" CB)
    (F1 : Fun K "is_word" "is_word" sIsWord f1 fd1) (b1 : Binds K fd1 ["thing"] []) (mg1 : mg "is_word" = some (.ref f1))
    (F2 : Fun K "is_number" "is_number" sIsNum f2 fd2) (b2 : Binds K fd2 ["thing"] []) (mg2 : mg "is_number" = some (.ref f2))
    (G3 : FnOk P w K mg base CX0 2 f3 fd3 ["self", "moves"] (spBeat C)) (b3 : Binds K fd3 ["self", "moves"] []) (m3 : Meth K C "beat" f3) :
    FnOk P w K mg base (L2.CX P w) 3 f fd ["self", "delays", "wires"] (spPInit C CB) := by
  have G1 : FnOk P w K mg base CX0 1 f1 fd1 ["thing"] spIsWord := ok_isWord F1 B
  have G2 : FnOk P w K mg base CX0 1 f2 fd2 ["thing"] spIsNum := ok_isNum F2 B
  obtain ⟨tO, hO⟩ := hO
  refine F.okX scPInit (fun vs H Q E h => ?_) (fun cdv A outer s H vs Q E hr h => ?_)
  · obtain ⟨p, dx, dv, wv, H0, D, as, W, rfl, _⟩ := h
    rfl
  · obtain ⟨p, dx, dv, wv, H0, D, as, W, rfl, hp, s0, p0, hD, hW, bad, good⟩ := h
    have hu := hu_of hr
    have hr1 : Room 1 _ := hr.mono (by decide)
    refine ⟨_, pss_cons (ps_if (pw_or (pt_not (pt_val (pe_callB call_isi (by rfl) B.isinstance (by decide +kernel) (pa_cons (pv 1) (pa_cons (pe_bltn (v := .ty "dict") (by rfl) B.dict (by decide +kernel) rfl) pa_nil)))))
          (pw_or (pt_not (pt_chain op_le op_le pe_int (pe_callB call_lenD (by rfl) B.len PySem.boot_len (pa_cons (pv 1) pa_nil)) pe_int))
          (pw_or1 (pt_not (pt_val (pe_callB (cr_all rfl) (by rfl) B.all (by decide +kernel) (pa_cons (pe_lock (pe_lc (own := [("name", 5)]) (g := gName 5) rfl scPInit.nd (pi_keys (pv 1)) (blkOk_by (N := nPInit) (sc := defScope sPInit) (by decide +kernel))
            (fun _ _ _ _ _ => pg_name (i := 5) scPInit.nd rfl (Or.inl rfl)) (fun _ _ _ _ _ => pts_nil) (fun _ _ _ _ _ => by exact pe_call G1 hr1 (by rfl) mg1 F1.kp b1 .nil pass0 (pa_cons (pv 5) pa_nil)))) pa_nil))))))).pt
        (pss_one (ps_raise rfl (takes_of rfl rfl rfl rfl) (pmk_own PySem.F.excBase_ValueError XB.xP XB.mgx XB.kP (raises_own XB.bP XB.tP) rfl))) pss_nil)
      (pss_cons (ps_if (pt_not (pt_val (pe_callB (cr_all rfl) (by rfl) B.all (by decide +kernel) (pa_cons (pe_lock (pe_lc (own := [("name", 5)]) (g := gName 5) (te := tAndV (tCall spIsNum [] E0 (tCons (tDGet (tVar 1) (tVar 5)) tNil)) (tChain (rI0 fun i j => .bl (decide (i ≤ j))) (rI0 fun i j => .bl (decide (i ≤ j))) (tC (.int 0)) (tDGet (tVar 1) (tVar 5)) (tC (.int 1000)))) rfl scPInit.nd (pi_keys (pv 1)) (blkOk_by (N := nPInit) (sc := defScope sPInit) (by decide +kernel))
            (fun _ _ _ _ _ => pg_name (i := 5) scPInit.nd rfl (Or.inl rfl)) (fun _ _ _ _ _ => pts_nil) (fun _ _ _ _ _ => by refine pe_and (pe_call G2 hr1 (by rfl) mg2 F2.kp b2 .nil pass0 ?_) ?_; exact (pa_cons (pe_dget hu (pv 1) (pv 5) (fun _ _ => rfl)) pa_nil); exact 
              (pe_one (pe_chain op_le op_le pe_int (pe_dget hu (pv 1) (pv 5) (fun _ _ => rfl)) pe_int))))) pa_nil))))
        (pss_one (ps_raise rfl (takes_of rfl rfl rfl rfl) (pmk_own PySem.F.excBase_ValueError XB.xP XB.mgx XB.kP (raises_own XB.bP XB.tP) rfl))) pss_nil)
      (pss_cons (ps_if (pt_cmpR op_ne (pe_dget2 hu (pv 1) (pe_glob (v := .str "out") (by rfl) hO ⟨_, rfl⟩) pe_int ⟨rfl, rfl, rfl, rfl⟩) pe_int (nomark _))
        (pss_one (ps_raise rfl (takes_of rfl rfl rfl rfl) (pmk_own PySem.F.excBase_ValueError XB.xP XB.mgx XB.kP (raises_own XB.bP XB.tP) rfl))) pss_nil)
      (pss_cons (ps_if (pw_or (pt_not (pt_val (pe_callB call_isiT (by rfl) B.isinstance (by decide +kernel) (pa_cons (pv 2) (pa_cons (pe_tup (pa_cons (pe_bltn (v := .ty "list") (by rfl) B.list (by decide +kernel) rfl) (pa_cons (pe_bltn (v := .ty "tuple") (by rfl) B.tuple (by decide +kernel) rfl) pa_nil))) pa_nil)))))
          (pw_or1 (pt_cmpR op_gt (pe_callB call_len_seq (by rfl) B.len PySem.boot_len (pa_cons (pv 2) pa_nil)) pe_int (nomark _)))).pt
        (pss_one (ps_raise rfl (takes_of rfl rfl rfl rfl) (pmk_own PySem.F.excBase_ValueError XB.xP XB.mgx XB.kP (raises_own XB.bP XB.tP) rfl))) pss_nil)
      (pss_cons (ps_set (i := 3) scPInit.nd rfl (Or.inr rfl) (pe_starOne (pv 1) (pe_glob (v := .str "out") (by rfl) hO ⟨_, rfl⟩) pe_int))
      (pss_cons (ps_for (passes_of rfl) rfl (pi_or (pi_list (pv 2)) (pi_tup (pv 2))) (pg_name (i := 4) scPInit.nd rfl (Or.inl rfl))
        (pss_cons (ps_if (pw_or (pt_not (pt_val (pe_callB call_isi (by rfl) B.isinstance (by decide +kernel) (pa_cons (pv 4) (pa_cons (pe_bltn (v := .ty "tuple") (by rfl) B.tuple (by decide +kernel) rfl) pa_nil)))))
            (pw_or (pt_cmpR op_ne (pe_callB call_len_seq (by rfl) B.len PySem.boot_len (pa_cons (pv 4) pa_nil)) pe_int (nomark _))
            (pw_or (pt_not (pt_val (pe_call G2 hr1 (by rfl) mg2 F2.kp b2 .nil pass0 (pa_cons (pe_ix ix_tup (pv 4) pe_int (fun _ _ => rfl)) pa_nil))))
            (pw_or1 (pt_not (pt_chain op_le op_le pe_int (pe_ix ix_tup (pv 4) pe_int (fun _ _ => rfl)) pe_int)))))).pt
          (pss_one (ps_raise rfl (takes_of rfl rfl rfl rfl) (pmk_own PySem.F.excBase_ValueError XB.xP XB.mgx XB.kP (raises_own XB.bP XB.tP) rfl))) pss_nil)
        (pss_one (ps_if (pt_not (pt_val (pe_callB (cr_all rfl) (by rfl) B.all (by decide +kernel) (pa_cons (pe_lc (own := [("one", 6)]) (g := gName 6) (te := tAndV (tCB (rIsi K) (tCons (tVar 6) (tCons (tC (.ty "str")) tNil))) (tDIn (tVar 6) (tVar 3))) rfl scPInit.nd (pi_tup (pe_slice sl_tup (pv 4) po_none (po_some pe_int))) (blkOk_by (N := nPInit) (sc := defScope sPInit) (by decide +kernel))
            (fun _ _ _ _ _ => pg_name (i := 6) scPInit.nd rfl (Or.inl rfl)) (fun _ _ _ _ _ => pts_nil) (fun _ _ _ _ _ => by refine pe_and (pe_callB call_isi (by rfl) B.isinstance (by decide +kernel) ?_) ?_; exact (pa_cons (pv 6) (pa_cons (pe_bltn (v := .ty "str") (by rfl) B.str (by decide +kernel) rfl) pa_nil)); exact
              (pe_one (pe_cmp (pc_din hu (pv 6) (pv 3)))))) pa_nil))))
          (pss_one (ps_raise rfl (takes_of rfl rfl rfl rfl) (pmk_own PySem.F.excBase_ValueError XB.xP XB.mgx XB.kP (raises_own XB.bP XB.tP) rfl))) pss_nil))))
      (pss_cons (ps_fld (pv 0) (pe_dc (own := [("name", 5)]) (g := gName 5) rfl scPInit.nd (pi_list (pe_callB (call_sortedD rfl) (by rfl) B.sorted (by decide +kernel) (pa_cons (pv 3) pa_nil))) (blkOk_by (N := nPInit) (sc := defScope sPInit) (by decide +kernel))
          (fun _ _ _ _ _ => pg_name (i := 5) scPInit.nd rfl (Or.inl rfl)) (fun _ _ _ _ _ => pts_nil) (fun _ _ _ _ _ => pv 5) (fun _ _ _ _ _ => pe_dget hu (pv 3) (pv 5) (fun _ _ => rfl))) rfl)
      (pss_cons (ps_fld (pv 0) (pe_callTy call_tuple_of (by rfl) B.tuple (by decide +kernel) (pa_cons (pv 2) pa_nil)) rfl)
      (pss_one (ps_if (pt_cmp (pc_isN (pe_meth (pv 0) T.cl m3 G3 hr b3 .nil pass0 (pa_cons pe_dnewK pa_nil))))
        (pss_one (ps_raise rfl (takes_of rfl rfl rfl rfl) (pmk_own PySem.F.excBase_ValueError XB.xP XB.mgx XB.kP (raises_own XB.bP XB.tP) rfl))) pss_nil))))))))), ?_⟩
    have fin1 : ∀ {b : Bool}, b = false → ∀ {p q : Prop}, q → (if b = true then p else q) := fun h _ _ hq => by rw [h]; exact iteF hq
    cases D with
    | none =>
      have hdv : dv = .non := hD
      subst hdv
      exact ⟨_, rfl, _, _, _, _, false, rfl, .ty _, .base .non, kit_ty (by decide +kernel), _, rfl, iteT (iteT (bad (by cases W <;> rfl) _ s0))⟩
    | some l =>
      obtain ⟨a, rfl, ha0, hnd, hpl, hkl, hl50⟩ := hD
      have ha := s0 _ _ ha0
      have badD : okD l = false → ∀ H', Same H0 H' → E (.ref CB) none H' := fun h => bad (by
        cases W with
        | none => rfl
        | some items =>
          show (okD l && okW (knS l) items && _) = false
          rw [h]
          rfl)
      refine ⟨_, rfl, _, _, _, _, true, rfl, .ty _, .base (.dK ha), kit_ty (by decide +kernel), _, rfl, iteF ?_⟩
      refine ⟨_, rfl, a, _, rfl, ha, _, _, rfl, rfl, _, rfl, ?_⟩
      rw [kvsD_len]
      by_cases h1 : (1 : Int) ≤ (l.length : Int)
      case neg =>
        rw [decide_eq_false h1]
        exact iteF ⟨_, rfl, iteT (iteT (badD (by unfold okD; rw [decide_eq_false h1]; rfl) _ s0))⟩
      rw [decide_eq_true h1]
      refine iteT ⟨_, _, rfl, rfl, _, rfl, ?_⟩
      by_cases h2 : (l.length : Int) ≤ 12
      case neg =>
        rw [decide_eq_false h2]
        exact iteT (iteT (badD (by unfold okD; rw [decide_eq_false h2, Bool.and_false]; rfl) _ s0))
      rw [decide_eq_true h2]
      refine iteF ?_
      refine all_keys rfl (by decide) ha hl50 (fun kv => isWord kv.1) (fun od kv H' acc N D hm s hDa hal k => ?_) (fun D1 H1 s1 hD1 => ?_)
      · exact ⟨_, rfl, _, rfl, hkl kv hm, fun H2 s2 => ⟨acc, s2 _ _ hDa, hal, k H2 s2⟩⟩
      have s01 := s0.trans s1
      refine ⟨D1, l.map fun kv => isWord kv.1, rfl, SqL.of (by rw [hD1, List.map_map]; rfl), _, rfl, ?_⟩
      rw [List.all_map]
      by_cases h3 : l.all (id ∘ fun kv => isWord kv.1) = true
      case neg =>
        rw [Bool.eq_false_iff.mpr h3]
        exact iteT (badD (by unfold okD; rw [show l.all (fun kv => isWord kv.1) = false from Bool.eq_false_iff.mpr h3, Bool.and_false]; rfl) _ s01)
      rw [h3]
      refine iteF ?_
      refine all_keys rfl (by decide) (s1 _ _ ha) hl50 (fun kv => okV kv.2) (fun od kv H' acc N D hm s hDa hal k => ?_) (fun D2 H2 s2 hD2 => ?_)
      · have hg : DGet H' a (.str kv.1) (some kv.2) := .inl ⟨kvsD l, Sum.inr kv.1, .inr ⟨od, s _ _ upd_same⟩, rfl, (valV_kvsD hnd hm).symm⟩
        refine ⟨_, rfl, _, rfl, a, _, rfl, hg, _, rfl, hpl kv hm, _, rfl, ?_⟩
        have kk : ∀ {b : Bool}, okV kv.2 = b → N (L2.upd H' D (.lst (acc ++ [.bl b]))) := fun e => by rw [← e]; exact k H' (Same.refl _)
        have hpk := hpl kv hm
        generalize kv.2 = v at *
        cases v with
        | int i =>
          refine iteT ⟨_, rfl, _, rfl, a, _, rfl, hg, _, _, rfl, rfl, _, rfl, ?_⟩
          by_cases h5 : (0 : Int) ≤ i
          · rw [decide_eq_true h5]
            exact iteT ⟨_, _, rfl, rfl, acc, hDa, hal, kk (by show (if decide ((0 : Int) ≤ i) = true then decide (i ≤ 1000) else false) = _; rw [decide_eq_true h5]; rfl)⟩
          · rw [decide_eq_false h5]
            exact iteF ⟨acc, hDa, hal, kk (by show (if decide ((0 : Int) ≤ i) = true then decide (i ≤ 1000) else false) = _; rw [decide_eq_false h5]; rfl)⟩
        | bl b => exact iteF ⟨acc, hDa, hal, kk rfl⟩
        | non => exact iteF ⟨acc, hDa, hal, kk rfl⟩
        | _ => exact False.elim hpk
      have s02 := s01.trans s2
      refine ⟨D2, l.map fun kv => okV kv.2, rfl, SqL.of (by rw [hD2, List.map_map]; rfl), _, rfl, ?_⟩
      rw [List.all_map]
      by_cases h4 : l.all (id ∘ fun kv => okV kv.2) = true
      case neg =>
        rw [Bool.eq_false_iff.mpr h4]
        exact iteT (badD (by unfold okD; rw [show l.all (fun kv => okV kv.2) = false from Bool.eq_false_iff.mpr h4, Bool.and_false]; rfl) _ s02)
      rw [h4]
      refine iteF ?_
      have hints : ∀ kv ∈ l, ∃ i, kv.2 = V.int i := fun kv hm => by
        have := List.all_eq_true.mp h4 kv hm
        have h5 : okV kv.2 = true := this
        generalize kv.2 = v at *
        cases v with
        | int i => exact ⟨i, rfl⟩
        | _ => cases h5
      have ha2 := s2 _ _ (s1 _ _ ha)
      refine ⟨_, rfl, a, rfl, .inl ⟨_, .inl ha2⟩, _, DGet.k (k := Sum.inr "out") ha2, ?_⟩
      rw [getD_dOf hnd hints]
      refine ⟨rfl, _, rfl, ?_⟩
      by_cases h5 : dOf l "out" = 0
      case neg =>
        rw [decide_eq_false (by intro z; injection z with z; exact h5 z)]
        exact iteT (badD (by unfold okD; rw [decide_eq_false h5, Bool.and_false]) _ s02)
      rw [decide_eq_true (by rw [h5])]
      refine iteF ?_
      have hok : okD l = true := by
        unfold okD
        rw [decide_eq_true h1, decide_eq_true h2, decide_eq_true h5, show l.all (fun kv => isWord kv.1) = true from h3, show l.all (fun kv => okV kv.2) = true from h4]
        rfl
      cases W with
      | none =>
        have hwv : wv = .non := hW
        subst hwv
        refine ⟨_, rfl, (by show 2 ≤ sizeLine; decide), fun t ht => ⟨_, t, _, _, _, false, rfl, upd_same, .cons (.ty _) (.cons (.ty _) .nil), .base .non,
          kitAny_cons (b := false) (kit_ty (by decide +kernel)) (fun _ => kitAny_cons (b := false) (kit_ty (by decide +kernel)) (fun _ => kitAny_nil) (fun z => nomatch z)) (fun z => nomatch z), _, rfl, iteT (iteT (bad rfl _ (s02.trans (Same.upd ht))))⟩⟩
      | some items =>
        obtain ⟨a2, rfl, hseq0, hit0, hil⟩ := hW
        have hasl : as.length = items.length := hit0.length
        have badW : okW (knS l) items = false → ∀ H', Same H0 H' → E (.ref CB) none H' := fun h => bad (by
          show (okD l && okW (knS l) items && _) = false
          rw [h, Bool.and_false]
          rfl)
        have seqs : ∀ {H'}, Same H0 H' → SqL K H' a2 (as.map V.ref) ∨ SqT K H' a2 (as.map V.ref) := fun s => by
          rcases hseq0 with h | h
          · exact .inl (SqL.of (s _ _ h))
          · exact .inr (SqT.of (s _ _ h))
        have tyx : ∀ {H'}, Same H0 H' → ∃ u, TyX K H' (.ref a2) u ∧ PySem.W.kitAny K u [.type "list", .type "tuple"] = some true := fun s => by
          rcases hseq0 with h | h
          · exact ⟨_, .base (.lst (s _ _ h)), kitAny_cons (b := true) (kit_ty (by decide +kernel)) (fun z => nomatch z) (fun _ => rfl)⟩
          · exact ⟨_, .base (.tup (s _ _ h)), kitAny_cons (b := false) (kit_ty (by decide +kernel)) (fun _ => kitAny_cons (b := true) (kit_ty (by decide +kernel)) (fun z => nomatch z) (fun _ => rfl)) (fun z => nomatch z)⟩
        refine ⟨_, rfl, (by show 2 ≤ sizeLine; decide), fun t ht => ?_⟩
        have s3 := s02.trans (Same.upd (o := .tup [V.ty "list", V.ty "tuple"]) ht)
        obtain ⟨u, ty, kt⟩ := tyx s3
        refine ⟨_, t, _, _, _, true, rfl, upd_same, .cons (.ty _) (.cons (.ty _) .nil), ty, kt, _, rfl, iteF ?_⟩
        refine ⟨_, rfl, a2, _, rfl, (seqs s3), _, _, rfl, rfl, _, rfl, ?_⟩
        have el : (((as.map V.ref).length : Nat) : Int) = (items.length : Int) := by rw [List.length_map, hasl]
        rw [el]
        by_cases h6 : (40 : Int) < (items.length : Int)
        case pos =>
          rw [decide_eq_true h6]
          exact iteT (badW (by unfold okW; rw [decide_eq_false (by omega)]; rfl) _ s3)
        rw [decide_eq_false h6]
        refine iteF ?_
        have hle40 : (items.length : Int) ≤ 40 := by omega
        -- known
        have ha3 := s3 _ _ ha0
        have s23 : Same H2 (L2.upd H2 t (.tup [V.ty "list", V.ty "tuple"])) := Same.upd ht
        generalize L2.upd H2 t (.tup [V.ty "list", V.ty "tuple"]) = H3 at *
        intro D5 hD5
        have nD : a ≠ D5 := ne_of_none ha3 hD5
        refine ⟨_, rfl, a, kvsD l, rfl, nD, by rw [upd_ne nD]; exact ha3, upd_same, by rw [kvsD_len]; omega, fun S hS => ?_⟩
        have nSD : S ≠ D5 := fun z => by rw [z, upd_same] at hS; cases hS
        have hS3 : H3 S = none := by rw [upd_ne nSD, upd_ne nSD] at hS; exact hS
        refine ⟨Sum.inr "out", rfl, upd_same, by rw [upd_ne nSD.symm, upd_same], ?_⟩
        rw [kvsD_DI hnd hints, put_known h5]
        have s35 : Same H3 (L2.upd (L2.upd (L2.upd (L2.upd (L2.upd H3 D5 (.dK [])) D5 (.dK (DI (l.map (·.1)) (dOf l)))) S (.dK [])) S (.dK [(Sum.inr "out", V.int 0)])) D5 (.dK (DI (knS l) (dOf l)))) :=
          ((((Same.upd hD5).put hD5).put hS3).put hS3).put hD5
        have hk5 : L2.upd (L2.upd (L2.upd (L2.upd (L2.upd H3 D5 (.dK [])) D5 (.dK (DI (l.map (·.1)) (dOf l)))) S (.dK [])) S (.dK [(Sum.inr "out", V.int 0)])) D5 (.dK (DI (knS l) (dOf l))) D5 = some (.dK (DI (knS l) (dOf l))) := upd_same
        generalize L2.upd (L2.upd (L2.upd (L2.upd (L2.upd H3 D5 (.dK [])) D5 (.dK (DI (l.map (·.1)) (dOf l)))) S (.dK [])) S (.dK [(Sum.inr "out", V.int 0)])) D5 (.dK (DI (knS l) (dOf l))) = H5 at *
        have s05 := s3.trans s35
        refine for_seq (j := 2) (K := K) (a := a2) (xs := as.map V.ref) rfl (seqs s05) (fun i σ H' => ∃ v4, σ = [some (.ref p), some (.ref a), some (.ref a2), some (.ref D5), v4, none, none] ∧ Same H5 H' ∧ (items.take i).all (okWire (knS l)) = true)
          ⟨none, rfl, Same.refl _, by rw [List.take_zero]; rfl⟩ (fun i σ H' _ ⟨_, _, s, _⟩ => s) ?_ ?_
        · rintro i x σ H6 H6' hi ⟨v4, rfl, s6, hall⟩ ⟨rfl, hx⟩
          obtain ⟨b, hb, rfl⟩ := ref_get hx
          obtain ⟨o, ho, hbo⟩ := paired_get hit0 hb
          have s06 := s05.trans s6
          have badI : okWire (knS l) o = false → ∀ H', Same H0 H' → E (.ref CB) none H' := fun h => badW (by
            unfold okW
            rw [show items.all (okWire (knS l)) = false from by
              rw [Bool.eq_false_iff]
              intro z
              rw [List.all_eq_true.mp z o (List.mem_of_getElem? ho)] at h
              cases h]
            rw [Bool.and_false])
          have etake : (items.take (i + 1)).all (okWire (knS l)) = ((items.take i).all (okWire (knS l)) && okWire (knS l) o) := by
            rw [List.take_succ, ho, List.all_append]
            show (_ && (okWire (knS l) o && true)) = _
            rw [Bool.and_true]
          have hk6 := s6 _ _ hk5
          cases o with
          | none =>
            obtain ⟨xs, hbo⟩ := hbo
            exact ⟨_, rfl, _, _, _, _, false, rfl, .ty _, .base (.lst (s06 _ _ hbo)), kit_ty (by decide +kernel), _, rfl, iteT (iteT (badI rfl _ s06))⟩
          | some w =>
            have hbo : H0 b = some (.tup (wtup w)) := hbo
            have hb6 := s06 _ _ hbo
            refine ⟨_, rfl, _, _, _, _, true, rfl, .ty _, .base (.tup hb6), kit_ty (by decide +kernel), _, rfl, iteF ?_⟩
            refine ⟨_, rfl, b, _, rfl, .inr (SqT.of hb6), rfl, _, rfl, iteF ?_⟩
            refine ⟨_, rfl, b, _, 2, .int w.2.2, rfl, rfl, SqT.of hb6, atI_nat (j := 2) rfl, _, rfl, True.intro, _, rfl, iteF ?_⟩
            refine ⟨_, rfl, b, _, 2, .int w.2.2, rfl, rfl, SqT.of hb6, atI_nat (j := 2) rfl, _, _, rfl, rfl, _, rfl, ?_⟩
            by_cases h7 : (0 : Int) ≤ w.2.2
            case neg =>
              rw [decide_eq_false h7]
              exact iteF ⟨_, rfl, iteT (badI (by rw [okWire_some]; rw [decide_eq_false h7]; rfl) _ s06)⟩
            rw [decide_eq_true h7]
            refine iteT ⟨_, _, rfl, rfl, _, rfl, ?_⟩
            by_cases h8 : w.2.2 ≤ 20
            case neg =>
              rw [decide_eq_false h8]
              exact iteT (badI (by rw [okWire_some]; rw [decide_eq_false h8, Bool.and_false]; rfl) _ s06)
            rw [decide_eq_true h8]
            refine iteF ?_
            refine ⟨_, rfl, 2, rfl, b, _, rfl, SqT.of hb6, (fun z => absurd z.2 (by show ¬ (HT.sIx 3 3 (some 2) = 3); decide)), fun q hq => ?_⟩
            have ecut : cutV (wtup w) none (some 2) = [w.1, w.2.1].map V.str := rfl
            have hq1 : L2.upd H6' q (.tup (cutV (wtup w) none (some 2))) q = some (.tup ([w.1, w.2.1].map V.str)) := by rw [ecut]; exact upd_same
            have sq := Same.upd (o := .tup (cutV (wtup w) none (some 2))) hq
            generalize L2.upd H6' q (.tup (cutV (wtup w) none (some 2))) = H8 at *
            refine ⟨q, rfl, ⟨_, SqT.of hq1⟩, fun D8 hD8 => lc_each walk_tup [w.1, w.2.1] rfl (by show 2 ≤ sizeLine; decide) (fun _ => true) (fun z v _ => v = .bl (decide (z ∈ knS l))) (fun _ _ _ _ _ _ _ _ _ r => r) hD8 (fun H' s => SqT.of (s _ _ hq1)) ?_ ?_⟩
            · rintro j z x H9 H9' acc N hj s9 hDa hal ⟨rfl, hx⟩ hy hn
              have ex : x = V.str z := by
                rw [List.getElem?_map, hj] at hx
                exact (Option.some.inj hx).symm
              subst ex
              have hk9 := s9 _ _ (sq _ _ hk6)
              refine ⟨rfl, _, rfl, _, _, _, _, true, rfl, .ty _, .base (.str _), kit_ty (by decide +kernel), _, rfl, iteT ?_⟩
              refine ⟨_, rfl, _, rfl, D5, _, rfl, DGet.k (k := Sum.inr z) hk9, acc, hDa, hal, hy rfl _ _ (Same.refl _) ?_⟩
              by_cases hz : z ∈ knS l
              · rw [valV_DI hz, decide_eq_true hz]
                rfl
              · rw [valV_DI_none hz, decide_eq_false hz]
                rfl
            · intro H9 us s9 hDa hpu
              have hus := paired_eq hpu
              rw [List.filter_eq_self.mpr fun _ _ => rfl] at hus
              subst hus
              have s69 := sq.trans s9
              refine ⟨D8, [decide (w.1 ∈ knS l), decide (w.2.1 ∈ knS l)], rfl, SqL.of hDa, _, rfl, ?_⟩
              by_cases h9 : w.1 ∈ knS l
              case neg =>
                rw [decide_eq_false h9]
                exact iteT (badI (by rw [okWire_some]; rw [decide_eq_false h9, Bool.and_false]; rfl) _ (s06.trans s69))
              by_cases h10 : w.2.1 ∈ knS l
              case neg =>
                rw [decide_eq_true h9, decide_eq_false h10]
                exact iteT (badI (by rw [okWire_some]; rw [decide_eq_false h10, Bool.and_false]) _ (s06.trans s69))
              rw [decide_eq_true h9, decide_eq_true h10]
              refine iteF ⟨_, rfl, s6.trans s69, ?_⟩
              rw [etake, hall, okWire_some]
              rw [decide_eq_true h7, decide_eq_true h8, decide_eq_true h9, decide_eq_true h10]
              rfl
        · rintro σ H6 ⟨v4, rfl, s6, hall⟩
          rw [List.length_map, hasl, List.take_length] at hall
          have s06 := s05.trans s6
          have hk6 := s6 _ _ hk5
          have hokW : okW (knS l) items = true := by
            unfold okW
            rw [decide_eq_true hle40, hall]
            rfl
          have hkn50 : (knS l).length ≤ 51 := Nat.le_trans (knS_len l) (by omega)
          refine ⟨_, rfl, D5, _, knS l, rfl, .inl hk6, (by unfold DI; rw [List.map_map]; rfl), by omega, fun ys q hperm hsort hq => ?_⟩
          have hysnd : ys.Nodup := hperm.nodup_iff.mpr (knS_nodup hnd)
          have hyl : ys.length ≤ 51 := by rw [hperm.length_eq]; exact hkn50
          have sq := Same.upd (o := .lst (ys.map V.str)) hq
          have hq1 : L2.upd H6 q (.lst (ys.map V.str)) q = some (.lst (ys.map V.str)) := upd_same
          generalize L2.upd H6 q (.lst (ys.map V.str)) = H7 at *
          have hk7 := sq _ _ hk6
          refine ⟨q, rfl, ⟨_, SqL.of hq1⟩, fun D7 hD7 => dc_each walk_list ys (by rw [List.length_map]) (by rw [List.length_map]; exact Nat.le_trans hyl (by decide)) (fun _ => true) (fun y => Sum.inr y) (fun y => .int (dOf l y)) hD7 (fun H' s => SqL.of (s _ _ hq1)) ?_ ?_⟩
          · rintro j z x H9 H9' kvs N hj s9 hDa hal ⟨rfl, hx⟩ hy hn
            have ex : x = V.str z := by
              rw [List.getElem?_map, hj] at hx
              exact (Option.some.inj hx).symm
            subst ex
            have hz : z ∈ knS l := hperm.mem_iff.mp (List.mem_of_getElem? hj)
            exact ⟨rfl, _, rfl, _, rfl, _, rfl, D5, _, rfl, get_DI (s9 _ _ hk7) hz, kvs, Sum.inr z, rfl, hDa, hal, hy rfl _ (Same.refl _)⟩
          · intro H8 s8 hD8
            rw [List.filter_eq_self.mpr fun _ _ => rfl, putAll_new (List.Pairwise.map _ (fun a b (hab : a ≠ b) e => hab (Sum.inr.inj e)) hysnd)] at hD8
            have hD8 : H8 D7 = some (.dK (DI ys (dOf l))) := hD8
            have s08 := (s06.trans sq).trans s8
            have D70 : H0 D7 = none := (s06.trans sq).free hD7
            have hp8 : H8 p = some (.ins C dx []) := (((((s1.trans s2).trans (show Same H2 H3 from s23)).trans s35).trans s6).trans sq |>.trans s8) _ _ hp
            have npD : D7 ≠ p := ne_of hD8 hp8 (by intro z; cases z)
            have n2p : a2 ≠ p := by
              rcases hseq0 with h | h
              · exact ne_of_none h p0
              · exact ne_of_none h p0
            refine ⟨_, rfl, p, C, dx, [], rfl, hp8, T.cl, T.nD, (by show 0 < 1000; decide), ?_⟩
            have s09 : Same H0 (L2.upd H8 p (.ins C dx (putF "delays" (.ref D7) []))) := s08.put p0
            have hp9 : L2.upd H8 p (.ins C dx (putF "delays" (.ref D7) [])) p = some (.ins C dx (putF "delays" (.ref D7) [])) := upd_same
            have hD9 : L2.upd H8 p (.ins C dx (putF "delays" (.ref D7) [])) D7 = some (.dK (DI ys (dOf l))) := by rw [upd_ne npD]; exact hD8
            generalize L2.upd H8 p (.ins C dx (putF "delays" (.ref D7) [])) = H9 at *
            have fin : ∀ wt HH, Same H0 HH → HH p = some (.ins C dx (pfs D7 wt)) → HH D7 = some (.dK (DI ys (dOf l))) → HH wt = some (.tup (as.map V.ref)) →
                (tB (tIsN (tMeth C "beat" (spBeat C) [] E0 (tVar 0) (tCons tDNewK tNil)))) [some (.ref p), some (.ref a), some (.ref a2), some (.ref D5), v4, none, none] HH (fun b H1 => if b = true then E (.ref CB) none H1 else Q .non H1) := fun wt HH sH hpp hdd hww => by
              refine ⟨_, rfl, p, dx, _, rfl, hpp, pfs_no _ _ (by decide +kernel) (by decide +kernel), fun m hm => ?_⟩
              have sm := Same.upd (o := .dK []) hm
              have hPl : PlanAt C (L2.upd HH m (.dK [])) p D7 wt ys (dOf l) as (wsOf items) := ⟨⟨dx, sm _ _ hpp⟩, sm _ _ hdd, sm _ _ hww, WiresAt.mono (sH.trans sm) (wires_of hit0 hall)⟩
              refine ⟨p, m, D7, wt, ys, dOf l, as, wsOf items, fun _ => 0, rfl, hPl, MovesAt.nil upd_same, Nat.le_trans (wsOf_le _) hil, by omega, hperm.mem_iff.mpr (knS_out l), fun w hw => ?_, fun HI sI => ?_⟩
              · have := List.all_eq_true.mp hall _ (mem_wsOf hw)
                rw [okWire_some] at this
                simp only [Bool.and_eq_true, decide_eq_true_iff] at this
                exact ⟨hperm.mem_iff.mpr this.1.2, hperm.mem_iff.mpr this.2⟩
              · have sHI := (sH.trans sm).trans sI
                have eb : beatS ys (dOf l) (wsOf items) (fun _ => 0) = beatS (knS l) (dOf l) (wsOf items) zeros := beat_perm hperm
                rw [eb]
                cases hbt : beatS (knS l) (dOf l) (wsOf items) zeros with
                | none =>
                  refine ⟨_, rfl, iteT (bad ?_ _ sHI)⟩
                  show (okD l && okW (knS l) items && (beatS (knS l) (dOf l) (wsOf items) zeros).isSome) = false
                  rw [hbt, hok, hokW]
                  rfl
                | some bt =>
                  refine ⟨_, rfl, iteF (good l items rfl rfl ?_ ys hperm hsort HI D7 wt sHI D70 (hPl.mono sI))⟩
                  show (okD l && okW (knS l) items && (beatS (knS l) (dOf l) (wsOf items) zeros).isSome) = true
                  rw [hbt, hok, hokW]
                  rfl
            rcases hseq0 with hL | hT
            · refine ⟨_, rfl, a2, _, rfl, .inl ⟨SqL.of (s09 _ _ hL), fun wt hwt => ?_⟩⟩
              have nwp : wt ≠ p := (ne_of_none hp9 hwt).symm
              have st := Same.upd (o := .tup (as.map V.ref)) hwt
              refine ⟨_, rfl, p, C, dx, _, rfl, st _ _ hp9, T.cl, T.nW, (by show 1 < 1000; decide), ?_⟩
              exact fin wt _ ((s09.trans st).put p0) upd_same (by rw [upd_ne npD]; exact st _ _ hD9) (by rw [upd_ne nwp]; exact upd_same)
            · refine ⟨_, rfl, a2, _, rfl, .inr ⟨SqT.of (s09 _ _ hT), ?_⟩⟩
              refine ⟨_, rfl, p, C, dx, _, rfl, hp9, T.cl, T.nW, (by show 1 < 1000; decide), ?_⟩
              exact fin a2 _ (s09.put p0) upd_same (by rw [upd_ne npD]; exact hD9) (by rw [upd_ne n2p]; exact s09 _ _ hT)
end
end Bw

/-! #### D9 -/
set_option Elab.async false
set_option linter.all false
set_option maxRecDepth 100000
set_option maxHeartbeats 4000000
namespace Bw
open PySem PySem.Spec PyProof.Rows L2
section
variable {P : Program} {w : World} {K : PySem.W.Frag} {mg : Str → Option Value} {base : Heap}
def spLRefused : Sp := fun vs H Q _ => ∃ (dv wv : V) (D : Option Dl) (as : List Addr) (W : Option (List (Option WireS))), vs = [dv, wv] ∧ DelAt H dv D ∧ WirAt H wv as W ∧ ∀ H', Same H H' → Q (.bl (!okPlan D W)) H'
theorem scLRefused : FnScope ["_law_delays", "_law_wires"] ["_law_delays", "_law_wires"] (defScope sLRefused) := ⟨rfl, rfl, rfl, by decide +kernel, rfl, by decide +kernel, by decide +kernel⟩
/-- a call of Plan, from the heap before -/
theorem pinit_at {C CB p dx : Addr} {H : Hp} {dv wv : V} {D : Option Dl} {as : List Addr} {W : Option (List (Option WireS))} {Q : VK} {E : XK} (hp : H p = none) (hdx : H dx = none) (hne : dx ≠ p) (hD : DelAt H dv D) (hW : WirAt H wv as W) (bad : okPlan D W = false → ∀ H', Same H H' → E (.ref CB) none H')
    (good : ∀ l items, D = some l → W = some items → okPlan D W = true → ∀ ks, ks.Perm (knS l) → sortedS ks = true → ∀ H' dl wt, Same H H' → H dl = none → PlanAt C H' p dl wt ks (dOf l) as (wsOf items) → Q (.ref p) H') :
    spPInit C CB (.ref p :: ([dv, wv] ++ [])) (L2.upd (L2.upd H dx (.own p)) p (.ins C dx [])) (fun v H2 => v = .non ∧ Q (.ref p) H2) E :=
  ⟨p, dx, dv, wv, H, D, as, W, rfl, upd_same, (Same.upd hdx).put hp, hp, hD, hW, bad, fun l items h1 h2 h3 ks h4 h5 H' dl wt h6 h7 h8 => ⟨rfl, good l items h1 h2 h3 ks h4 h5 H' dl wt h6 h7 h8⟩⟩
theorem ok_lrefused {f C CB fI : Addr} {fd fdI : FuncData} (F : Fun K "_law_refused" "_law_refused" sLRefused f fd) (I : ITxt K mg C) (XB : XTxt K mg "BadPlan" CB) (M : Mk K C fI)
    (GI : FnOk P w K mg base (L2.CX P w) 3 fI fdI ["self", "delays", "wires"] (spPInit C CB)) (bI : Binds K fdI ["self", "delays", "wires"] []) :
    FnOk P w K mg base CX0 5 f fd ["_law_delays", "_law_wires"] spLRefused := by
  refine F.ok scLRefused (fun vs H Q E h => ?_) (fun cdv A outer s H vs Q E hr h => ?_)
  · obtain ⟨dv, wv, D, as, W, rfl, _⟩ := h
    rfl
  · obtain ⟨dv, wv, D, as, W, rfl, hD, hW, k⟩ := h
    refine ⟨_, pss_one (ps_try_only rfl rfl ⟨rfl, by decide, .inl XB.mgx⟩ takes0 (fun W pn xe tk _ => pss_cons (ps_expr (pe_makeS M GI hr (by rfl) I.mgC bI .nil (fun σ => passAt tk σ) (pa_cons (pv 0) (pa_cons (pv 1) pa_nil)))) (pss_one (ps_ret pe_bl)))
      (fun a oe cls d pn _ _ => pss_one (ps_ret pe_bl))), ?_⟩
    refine ⟨_, rfl, _, rfl, fun x dx hx hdx hne => pinit_at (C := C) (CB := CB) (Q := fun _ H1 => Q (.bl false) H1) hx hdx hne hD hW (fun hb H' s => ⟨true, XB.eP, fun _ a ha => ?_, fun z => nomatch z⟩) (fun l items h1 h2 h3 ks _ _ H' dl wt s _ _ => ?_)⟩
    · have q := k H' s
      rw [hb] at q
      exact q
    · have q := k H' s
      rw [h3] at q
      exact q
end
end Bw

/-! #### D10 -/
set_option Elab.async false
set_option linter.all false
set_option maxRecDepth 100000
set_option maxHeartbeats 4000000
namespace Bw
open PySem PySem.Spec PyProof.Rows L2
section
variable {P : Program} {w : World} {K : PySem.W.Frag} {mg : Str → Option Value} {base : Heap}
/-- the script: a list of ints -/
def ScrAt (K : PySem.W.Frag) (H : Hp) (a : Addr) : Prop := ∃ ns : List Int, SqL K H a (ns.map V.int) ∧ ns.length ≤ 63
theorem ScrAt.mono {H H' : Hp} {a : Addr} (s : Same H H') (h : ScrAt K H a) : ScrAt K H' a := by
  obtain ⟨ns, h1, h2⟩ := h
  exact ⟨ns, s.seq h1, h2⟩
def spDraw (K : PySem.W.Frag) : Sp := fun vs H Q _ => ∃ (a : Addr) (at_ many : Int), vs = [.ref a, .int at_, .int many] ∧ ScrAt K H a ∧ 0 ≤ at_ ∧ at_ ≤ 10000 ∧ 0 < many ∧ ∀ H' v, Same H H' → 0 ≤ v → v < many → Q (.int v) H'
abbrev nDraw : List Str := ["_law_script", "_law_at", "_law_many", "_law_row", "_law_cell", "_law_turn", "_law_step", "_law_mixed"]
theorem scDraw : FnScope nDraw ["_law_script", "_law_at", "_law_many"] (defScope sDraw) := ⟨rfl, rfl, rfl, by decide +kernel, rfl, by decide +kernel, by decide +kernel⟩
theorem ok_draw {f : Addr} {fd : FuncData} (F : Fun K "_law_draw" "_law_draw" sDraw f fd) (B : Bt mg) : FnOk P w K mg base CX0 1 f fd ["_law_script", "_law_at", "_law_many"] (spDraw K) := by
  refine F.ok scDraw (fun vs H Q E h => ?_) (fun cdv A outer s H vs Q E hr h => ?_)
  · obtain ⟨a, at_, many, rfl, _⟩ := h
    rfl
  · obtain ⟨a, at_, many, rfl, ⟨ns, hS, hlen⟩, h0, h1, hm, k⟩ := h
    have hu := hu_of hr
    have hu1 := Nat.lt_of_succ_lt hu
    refine ⟨_, Evl.pss_cut (ps_set (i := 3) scDraw.nd rfl (Or.inl rfl) (pe_ifExp (pt_cmpR (op_neNilL hu1) (pv 0) (pe_lst pa_nil) (nomark _)) (pe_slice sl_list (pv 0) po_none (po_some pe_int)) (pe_lst (pa_cons pe_int pa_nil))))
      (pss_cons (ps_par (i := 4) (j := 5) rfl scDraw.nd rfl rfl (by decide) rfl rfl (pa_cons (pe_ix ix_list (pv 3) (pe_op op_mod (pv 1) (pe_callB call_len_seq (by rfl) B.len PySem.boot_len (pa_cons (pv 3) pa_nil))) (fun _ _ => rfl))
          (pa_cons (pe_op op_fdiv (pv 1) (pe_callB call_len_seq (by rfl) B.len PySem.boot_len (pa_cons (pv 3) pa_nil))) pa_nil)) (by rfl))
      (pss_cons (ps_if (pt_cmpR op_ge (pv 4) (pe_op op_pow pe_int pe_int) (nomark _))
        (pss_cons (ps_set (i := 4) scDraw.nd rfl (Or.inl rfl) (pe_op op_mod (pe_callTy call_int1 (by rfl) B.int (by decide +kernel) (pa_cons (pv 4) pa_nil)) (pe_op op_pow pe_int pe_int)))
        (pss_cons (ps_for PassesOwn.never rfl (pi_range1 (by rfl) B.range (pa_cons (pe_op op_mod (pv 5) pe_int) pa_nil)) (pg_name (i := 6) scDraw.nd rfl (Or.inl rfl)) (pss_one (ps_set (i := 4) scDraw.nd rfl (Or.inl rfl) (pe_op op_fdiv (pv 4) pe_int))))
        (pss_one (ps_ret (pe_op op_mod (pe_op op_mod (pe_callTy call_int1 (by rfl) B.int (by decide +kernel) (pa_cons (pv 4) pa_nil)) pe_int) (pv 2)))))) pss_nil)
      (pss_cons (ps_set (i := 7) scDraw.nd rfl (Or.inl rfl) (pe_op op_add (pe_op op_mul (pe_op op_add (pe_op op_add (pe_op op_mod (pe_callTy call_int1 (by rfl) B.int (by decide +kernel) (pa_cons (pe_op op_add (pv 4) (pe_op op_mul pe_int (pv 5))) pa_nil)) pe_int) (pe_op op_mul pe_int (pv 1))) pe_int) pe_int)
          (pe_op op_mod (pe_callTy call_int1 (by rfl) B.int (by decide +kernel) (pa_cons (pe_op op_fdiv (pv 4) pe_int) pa_nil)) pe_int)))
      (pss_one (ps_ret (pe_op op_mod (pe_callTy call_int1 (by rfl) B.int (by decide +kernel) (pa_cons (pe_op op_mod (pe_op op_mul (pe_op op_mod (pv 7) pe_int) pe_int) pe_int) pa_nil)) (pv 2))))))), ?_⟩
    refine ⟨fun σ' H' => ∃ (r : Addr) (ms : List Int), σ' = [some (.ref a), some (.int at_), some (.int many), some (.ref r), none, none, none, none] ∧ Same H H' ∧ H' r = some (.lst (ms.map V.int)) ∧ 0 < ms.length ∧ ms.length ≤ 60, ?_, ?_⟩
    · refine ⟨_, rfl, Nat.zero_le _, fun z hz => ⟨a, z, _, rfl, rfl, (Same.upd hz).seq hS, SqL.of upd_same, _, rfl, ?_⟩⟩
      have sz := Same.upd (o := .lst []) hz
      generalize L2.upd H z (.lst []) = H1 at *
      cases ns with
      | nil => exact iteF ⟨(by show 1 ≤ sizeLine; decide), fun r hr' => ⟨r, [7], rfl, sz.trans (Same.upd hr'), upd_same, by decide, by decide⟩⟩
      | cons n ns =>
        refine iteT ⟨_, rfl, 60, rfl, a, _, rfl, sz.seq hS, fun r hr' => ⟨r, (n :: ns).take 60, rfl, sz.trans (Same.upd hr'), ?_, by simp, List.length_take_le _ _⟩⟩
        rw [upd_same]
        have e : cutV ((n :: ns).map V.int) none (some 60) = ((n :: ns).take 60).map V.int := by
          show (((n :: ns).map V.int).drop 0).take (HT.sIx ((n :: ns).map V.int).length ((n :: ns).map V.int).length (some ((60 : Nat) : Int)) - 0) = _
          rw [HT.sIx_nat, Nat.sub_zero, List.drop_zero, List.map_take]
          by_cases hl : 60 ≤ ((n :: ns).map V.int).length
          · rw [Nat.min_eq_left hl]
          · rw [Nat.min_eq_right (by omega), List.take_length, List.take_of_length_le (by omega)]
        rw [e]
    · rintro σ' H1 ⟨r, ms, rfl, s1, hr1, hpos, h60⟩
      have elen : (((ms.map V.int).length : Nat) : Int) = (ms.length : Int) := by rw [List.length_map]
      have hj : (at_ % (ms.length : Int)).toNat < ms.length := by
        have h2 := Int.emod_nonneg at_ (show (ms.length : Int) ≠ 0 by omega)
        have h3 := Int.emod_lt_of_pos at_ (show (0 : Int) < (ms.length : Int) by omega)
        omega
      have hat : atI (ms.map V.int) (at_ % (ms.length : Int)) = some (V.int (ms[(at_ % (ms.length : Int)).toNat])) := by
        have h2 := Int.emod_nonneg at_ (show (ms.length : Int) ≠ 0 by omega)
        have := atI_nat (xs := ms.map V.int) (j := (at_ % (ms.length : Int)).toNat) (v := V.int (ms[(at_ % (ms.length : Int)).toNat])) (by rw [List.getElem?_map, List.getElem?_eq_getElem hj]; rfl)
        rw [Int.toNat_of_nonneg h2] at this
        exact this
      generalize ms[(at_ % (ms.length : Int)).toNat] = cell at *
      refine ⟨_, rfl, _, rfl, _, rfl, r, _, rfl, .inl (SqL.of hr1), at_, _, rfl, rfl, (by rw [elen]; omega), r, _, _, _, rfl, rfl, SqL.of hr1, (by rw [elen]; exact hat), ?_⟩
      refine ⟨_, rfl, _, rfl, r, _, rfl, .inl (SqL.of hr1), at_, _, rfl, rfl, (by rw [elen]; exact ⟨by omega, by omega⟩), _, _, rfl, ?_⟩
      rw [elen]
      have htn0 : 0 ≤ at_ / (ms.length : Int) := Int.ediv_nonneg h0 (by omega)
      have htn1 : at_ / (ms.length : Int) ≤ 10000 := by
        have := Int.ediv_le_self (b := (ms.length : Int)) h0 
        omega
      refine ⟨_, rfl, _, _, rfl, rfl, ⟨by decide, by decide, by decide⟩, _, _, rfl, rfl, _, rfl, ?_⟩
      refine ite2 (fun _ => ?_) (fun _ => ?_)
      · refine ⟨_, rfl, .inl ⟨_, rfl, _, _, rfl, rfl, ⟨by decide, by decide, by decide⟩, _, _, rfl, rfl, (by show (0 : Int) < 97 ^ 40; decide), ?_⟩⟩
        refine ⟨_, rfl, _, _, rfl, rfl, (by show (0 : Int) < 40; decide), _, rfl, by omega, by omega, for_range (fun i σ H' => ∃ c v6, σ = [some (.ref a), some (.int at_), some (.int many), some (.ref r), some (.int c), some (.int (at_ / (ms.length : Int))), v6, none] ∧ H' = H1) ⟨_, _, rfl, rfl⟩ ?_ ?_⟩
        · rintro i σ H' hi ⟨c, v6, rfl, rfl⟩
          exact ⟨_, rfl, _, _, rfl, rfl, ⟨by decide, by decide⟩, _, _, rfl, rfl⟩
        · rintro σ H' ⟨c, v6, rfl, rfl⟩
          refine ⟨_, rfl, .inl ⟨_, rfl, _, _, rfl, rfl, (by show (0 : Int) < 97; decide), _, rfl, _, _, rfl, rfl, hm, ?_⟩⟩
          exact k _ _ s1 (Int.emod_nonneg _ (by omega)) (Int.emod_lt_of_pos _ hm)
      · refine ⟨_, rfl, _, rfl, _, _, rfl, rfl, .inl ⟨by decide, by decide⟩, _, _, rfl, rfl, .inl ⟨_, rfl, _, _, rfl, rfl, (by show (0 : Int) < 1000003; decide), ?_⟩⟩
        refine ⟨_, rfl, _, _, rfl, rfl, .inl ⟨by decide, by decide⟩, _, _, rfl, rfl, _, _, rfl, rfl, _, _, rfl, rfl, .inr ⟨by decide, by decide⟩, ?_⟩
        refine ⟨_, rfl, _, _, rfl, rfl, ⟨by decide, by decide⟩, .inl ⟨_, rfl, _, _, rfl, rfl, (by show (0 : Int) < 999983; decide), _, _, rfl, rfl, ?_⟩⟩
        refine ⟨_, rfl, _, _, rfl, rfl, (by show (0 : Int) < 2147483647; decide), _, _, rfl, rfl, .inr ⟨by decide, by decide⟩, _, _, rfl, rfl, (by show (0 : Int) < 4294967291; decide), .inl ⟨_, rfl, _, rfl, _, _, rfl, rfl, hm, ?_⟩⟩
        exact k _ _ s1 (Int.emod_nonneg _ (by omega)) (Int.emod_lt_of_pos _ hm)
end
end Bw

/-! #### D11 -/
set_option Elab.async false
set_option linter.all false
set_option maxRecDepth 100000
set_option maxHeartbeats 4000000
namespace Bw
open PySem PySem.Spec PyProof.Rows L2
section
variable {P : Program} {w : World} {K : PySem.W.Frag} {mg : Str → Option Value} {base : Heap}
/-! ### _law_plan -/
def txS (n : Nat) : Str := cutS "abcde" none (some (n : Int))
def nmS (n : Nat) : List Str := (txS n).cps.toList.map fun c => (⟨#[c]⟩ : Str)
def spLPlan (K : PySem.W.Frag) : Sp := fun vs H Q _ => ∃ (a : Addr) (at_ : Int), vs = [.ref a, .int at_] ∧ ScrAt K H a ∧ 0 ≤ at_ ∧ at_ ≤ 1000 ∧
  ∀ H' t dl wl n d as ws, Same H H' → H' t = some (.tup [.ref dl, .ref wl]) → H dl = none → H' dl = some (.dK (DI (nmS n) d)) → H wl = none → H' wl = some (.lst (as.map V.ref)) → WiresAt H' as ws → 2 ≤ n → n ≤ 5 → (∀ k, k ∉ nmS n → d k = 0) → (∀ k, 0 ≤ d k ∧ d k ≤ 5) → ws.length ≤ 9 →
    (∀ w ∈ ws, 0 ≤ w.2.2 ∧ w.2.2 ≤ 2 ∧ w.1 ∈ nmS n ++ [("out" : Str)] ∧ w.2.1 ∈ nmS n ++ [("out" : Str)]) → Q (.ref t) H'
abbrev nLPlan : List Str := ["_law_script", "_law_at", "_law_names", "_law_spot", "_law_delays", "_law_ends", "_law_wires", "_law_turn", "_law_name"]
theorem scLPlan : FnScope nLPlan ["_law_script", "_law_at"] (defScope sLPlan) := ⟨rfl, rfl, rfl, by decide +kernel, rfl, by decide +kernel, by decide +kernel⟩
theorem atI_int {α : Type} {xs : List α} {v : Int} (h0 : 0 ≤ v) (h1 : v < (xs.length : Int)) : ∃ x, x ∈ xs ∧ atI xs v = some x := by
  have hj : v.toNat < xs.length := by omega
  have := atI_nat (xs := xs) (j := v.toNat) (v := xs[v.toNat]) (List.getElem?_eq_getElem hj)
  rw [Int.toNat_of_nonneg h0] at this
  exact ⟨_, List.getElem_mem hj, this⟩
theorem nmS_facts : ∀ n, 2 ≤ n → n ≤ 5 → (nmS n ++ [("out" : Str)]).Nodup ∧ (nmS n).length = n ∧ (txS n).length = n ∧ (txS n).cps.size = n := by
  intro n h2 h5
  have : n = 2 ∨ n = 3 ∨ n = 4 ∨ n = 5 := by omega
  rcases this with rfl | rfl | rfl | rfl <;> decide +kernel
/-- pairs of a name and a small number, as a dict's data -/
theorem pairs_dl {H : Hp} {B : Int} : ∀ {l : List Str} {us : List V}, Paired (fun x v => ∃ p i, v = V.ref p ∧ H p = some (.tup [.str x, .int i]) ∧ 0 ≤ i ∧ i < B) l us →
    ∃ (as : List Addr) (dl : Dl), us = as.map V.ref ∧ dl.map (·.1) = l ∧ Paired (fun p kv => H p = some (.tup [kV kv.1, kv.2])) as (kvsD dl) ∧ ∀ kv ∈ dl, ∃ i, kv.2 = V.int i ∧ 0 ≤ i ∧ i < B
  | _, _, .nil => ⟨[], [], rfl, rfl, .nil, fun _ h => nomatch h⟩
  | x :: l, _, .cons ⟨p, i, e, h, h0, h1⟩ t => by
    obtain ⟨as, dl, e2, e3, h2, h3⟩ := pairs_dl t
    refine ⟨p :: as, (x, .int i) :: dl, by rw [e, e2]; rfl, by rw [List.map_cons, e3], .cons h h2, fun kv hm => ?_⟩
    rcases List.mem_cons.mp hm with z | z
    · subst z
      exact ⟨i, rfl, h0, h1⟩
    · exact h3 kv z
theorem ok_lplan {f f1 : Addr} {fd fd1 : FuncData} (F : Fun K "_law_plan" "_law_plan" sLPlan f fd) (B : Bt mg) (F1 : Fun K "_law_draw" "_law_draw" sDraw f1 fd1) (b1 : Binds K fd1 ["_law_script", "_law_at", "_law_many"] []) (mg1 : mg "_law_draw" = some (.ref f1)) :
    FnOk P w K mg base CX0 2 f fd ["_law_script", "_law_at"] (spLPlan K) := by
  have G1 : FnOk P w K mg base CX0 1 f1 fd1 ["_law_script", "_law_at", "_law_many"] (spDraw K) := ok_draw F1 B
  refine F.ok scLPlan (fun vs H Q E h => ?_) (fun cdv A outer s H vs Q E hr h => ?_)
  · obtain ⟨a, at_, rfl, _⟩ := h
    rfl
  · obtain ⟨a, at_, rfl, hS, h0, h1, k⟩ := h
    have hu := hu_of hr
    have hu1 := Nat.lt_of_succ_lt hu
    refine ⟨_, pss_cons (ps_set (i := 2) scLPlan.nd rfl (Or.inl rfl) (pe_slice sl_str pe_str po_none (po_some (pe_op op_add pe_int (pe_call G1 hr (by rfl) mg1 F1.kp b1 .nil pass0 (pa_cons (pv 0) (pa_cons (pv 1) (pa_cons pe_int pa_nil))))))))
      (pss_cons (ps_set (i := 4) scLPlan.nd rfl (Or.inl rfl) (pe_callTy (call_dictP rfl) (by rfl) B.dict (by decide +kernel) (pa_cons (pe_lc (own := [("_law_spot", 3), ("_law_name", 8)]) (g := g2 K 3 8)
            (te := tTup (tCons (tVar 8) (tCons (tCall (spDraw K) [] E0 (tCons (tVar 0) (tCons (tOp (rI0 fun i j => .int (i + j)) (tOp (rI0 fun i j => .int (i + j)) (tVar 1) (tC (.int 1))) (tVar 3)) (tCons (tC (.int 6)) tNil)))) tNil)))
            rfl scLPlan.nd (pi_enumS (by rfl) B.enumerate (pa_cons (pv 2) pa_nil)) (blkOk_by (N := nLPlan) (sc := defScope sLPlan) (by decide +kernel))
          (fun _ _ _ _ _ => by exact pg_tup rfl (pgs_cons (pg_name (i := 3) scLPlan.nd rfl (Or.inl rfl)) (pgs_cons (pg_name (i := 8) scLPlan.nd rfl (Or.inl rfl)) pgs_nil)))
          (fun _ _ _ _ _ => pts_nil)
          (fun _ _ _ _ _ => by refine pe_tup (pa_cons (pv 8) (pa_cons (pe_call G1 hr (by rfl) mg1 F1.kp b1 .nil pass0 ?_) pa_nil)); exact pa_cons (pv 0) (pa_cons (pe_op op_add (pe_op op_add (pv 1) pe_int) (pv 3)) (pa_cons pe_int pa_nil)))) pa_nil)))
      (pss_cons (ps_par (i := 5) (j := 6) rfl scLPlan.nd rfl rfl (by decide) rfl rfl (pa_cons (pe_op op_cat (pe_callTy (call_list_text rfl) (by rfl) B.list (by decide +kernel) (pa_cons (pv 2) pa_nil)) (pe_lst (pa_cons pe_str pa_nil))) (pa_cons (pe_lst pa_nil) pa_nil)) (by rfl))
      (pss_cons (ps_for PassesOwn.never rfl (pi_range1 (by rfl) B.range (pa_cons (pe_op op_add (pe_callB call_len_str (by rfl) B.len PySem.boot_len (pa_cons (pv 2) pa_nil)) (pe_call G1 hr (by rfl) mg1 F1.kp b1 .nil pass0 (pa_cons (pv 0) (pa_cons (pe_op op_add (pv 1) pe_int) (pa_cons pe_int pa_nil))))) pa_nil)) (pg_name (i := 7) scLPlan.nd rfl (Or.inl rfl))
        (pss_cons (ps_set (i := 3) scLPlan.nd rfl (Or.inl rfl) (pe_op op_add (pe_op op_add (pv 1) pe_int) (pe_op op_mul pe_int (pv 7))))
        (pss_one (ps_expr (pe_bm PySem.F.plainAttrs_list PySem.F.slot_list_append PySem.F.type_list_append mt_append (pv 6) (pa_cons (pe_tup (pa_cons
            (pe_ix ix_list (pv 5) (pe_call G1 hr (by rfl) mg1 F1.kp b1 .nil pass0 (pa_cons (pv 0) (pa_cons (pv 3) (pa_cons (pe_callB call_len_seq (by rfl) B.len PySem.boot_len (pa_cons (pv 5) pa_nil)) pa_nil)))) (fun _ _ => rfl))
            (pa_cons (pe_ix ix_list (pv 5) (pe_call G1 hr (by rfl) mg1 F1.kp b1 .nil pass0 (pa_cons (pv 0) (pa_cons (pe_op op_add (pv 3) pe_int) (pa_cons (pe_callB call_len_seq (by rfl) B.len PySem.boot_len (pa_cons (pv 5) pa_nil)) pa_nil)))) (fun _ _ => rfl))
            (pa_cons (pe_ix ix_tup (pe_tup (pa_cons pe_int (pa_cons pe_int (pa_cons pe_int (pa_cons pe_int (pa_cons pe_int pa_nil)))))) (pe_call G1 hr (by rfl) mg1 F1.kp b1 .nil pass0 (pa_cons (pv 0) (pa_cons (pe_op op_add (pv 3) pe_int) (pa_cons pe_int pa_nil)))) (fun _ _ => rfl)) pa_nil)))) pa_nil))))))
      (pss_one (ps_ret (pe_tup (pa_cons (pv 4) (pa_cons (pv 6) pa_nil)))))))), ?_⟩
    refine ⟨_, rfl, _, rfl, a, at_, 4, rfl, hS, h0, by omega, by decide, fun H1 v s1 v0 v1 => ⟨_, _, rfl, rfl, _, rfl, _, rfl, by decide +kernel, ?_⟩⟩
    obtain ⟨n, hn, hn2, hn5⟩ : ∃ n : Nat, (2 : Int) + v = (n : Int) ∧ 2 ≤ n ∧ n ≤ 5 := ⟨(2 + v).toNat, by omega, by omega, by omega⟩
    have etx : cutS "abcde" none (some (2 + v)) = txS n := by unfold txS; rw [hn]
    rw [etx]
    obtain ⟨hnd, hnl, htl, hts⟩ := nmS_facts n hn2 hn5
    refine ⟨_, rfl, _, rfl, fun D hD => lc_each walk_enumS (nmS n) (by rw [hnl, hts]) (by rw [hts]; exact Nat.le_trans hn5 (by decide)) (fun _ => true) (fun x v H => ∃ p i, v = V.ref p ∧ H p = some (.tup [.str x, .int i]) ∧ 0 ≤ i ∧ i < 6)
      (fun e v H H' us us' h1 _ h3 ⟨p, i, e1, e2, e3⟩ => ⟨p, i, e1, tup_stays h1 h3 e2, e3⟩) hD (fun _ _ => True.intro) ?_ ?_⟩
    · rintro i nm x H2 H' acc N hi s hDa hal ⟨TT, x1, y1, rfl, hTT, rfl, hx1, hy1⟩ hy hnn
      have ex : V.int (i : Nat) = x1 := Option.some.inj hx1
      subst ex
      have hil : i < n := by
        have := (List.getElem?_eq_some_iff.mp hi).1
        omega
      have ey : y1 = V.str nm := by
        unfold nmS at hi
        rw [List.getElem?_map, Array.getElem?_toList] at hi
        have hy2 : ((txS n).cps[i]?).map (fun c => V.str ⟨#[c]⟩) = some y1 := hy1
        cases hc : (txS n).cps[i]? with
        | none => rw [hc] at hi; cases hi
        | some c =>
          rw [hc] at hi hy2
          rw [← Option.some.inj hi, ← Option.some.inj hy2]
      subst ey
      have sT := Same.upd (o := .tup [V.int (i : Nat), V.str nm]) hTT
      refine ⟨TT, _, rfl, SqT.of upd_same, rfl, _, _, rfl, _, _, rfl, rfl, rfl, _, rfl, _, rfl, _, rfl, _, _, rfl, rfl, _, rfl, _, _, rfl, rfl, a, _, 6, rfl, (hS.mono s1).mono (s.trans sT), by omega, by omega, by decide, fun H3 u s3 u0 u1 => ?_⟩
      exact ⟨(by show 2 ≤ sizeLine; decide), fun p hp => ⟨acc, (Same.upd' (sT.trans s3) hp) _ _ hDa, hal, hy rfl _ _ (Same.upd' (sT.trans s3) hp) ⟨p, u, rfl, upd_same, u0, u1⟩⟩⟩
    · intro H2 us s2 hDa hpu
      rw [List.filter_eq_self.mpr fun _ _ => rfl] at hpu
      obtain ⟨ps, dd, rfl, hkeys, hps, hdd⟩ := pairs_dl hpu
      have hddn : (dd.map (·.1)).Nodup := by rw [hkeys]; exact (List.nodup_append.mp hnd).1
      have hint : ∀ kv ∈ dd, ∃ i, kv.2 = V.int i := fun kv hm => ⟨_, (hdd kv hm).choose_spec.1⟩
      have ekv : kvsD dd = DI (nmS n) (dOf dd) := by rw [kvsD_DI hddn hint, hkeys]
      refine ⟨D, ps, kvsD dd, rfl, SqL.of hDa, Paired.mapP hps fun p kv e => SqT.of e, fun dl hdl => ?_⟩
      rw [ekv, merge_DI (List.nodup_append.mp hnd).1]
      have hd0 : ∀ k, k ∉ nmS n → dOf dd k = 0 := fun k hk => dOf_none (by rw [hkeys]; exact hk)
      have hdb : ∀ k, 0 ≤ dOf dd k ∧ dOf dd k ≤ 5 := fun k => by
        by_cases hk : k ∈ dd.map (·.1)
        · obtain ⟨kv, hm, rfl⟩ := List.mem_map.mp hk
          obtain ⟨i, e, i0, i1⟩ := hdd kv hm
          rw [dOf_mem hddn hm e]
          omega
        · rw [dOf_none hk]
          omega
      generalize dOf dd = d at *
      have s12 := s1.trans s2
      have hdl0 : H dl = none := s12.free hdl
      have s3 := Same.upd (o := .dK (DI (nmS n) d)) hdl
      have hd3 : L2.upd H2 dl (.dK (DI (nmS n) d)) dl = some (.dK (DI (nmS n) d)) := upd_same
      generalize L2.upd H2 dl (.dK (DI (nmS n) d)) = H3 at *
      have s13 := s12.trans s3
      refine ⟨_, rfl, _, rfl, (by rw [hts]; omega), fun l1 hl1 => ⟨(by show 1 ≤ sizeLine; decide), fun l2 hl2 => ?_⟩⟩
      have s4 := Same.upd (o := .lst ((txS n).cps.toList.map fun c => V.str ⟨#[c]⟩)) hl1
      have s5 := Same.upd (o := .lst [V.str "out"]) hl2
      refine ⟨l1, l2, _, _, rfl, rfl, s5 _ _ upd_same, upd_same, (by rw [List.length_map, Array.length_toList, hts]; exact Nat.le_trans (Nat.add_le_add hn5 (Nat.le_refl 1)) (by decide)), fun en hen => ⟨Nat.zero_le _, fun wl hwl => ⟨_, _, rfl, ?_⟩⟩⟩
      have s6 := Same.upd (o := .lst (((txS n).cps.toList.map fun c => V.str ⟨#[c]⟩) ++ [V.str "out"])) hen
      have s7 := Same.upd (o := .lst []) hwl
      have hen7 := s7 _ _ (upd_same (H := L2.upd (L2.upd H3 l1 (.lst ((txS n).cps.toList.map fun c => V.str ⟨#[c]⟩))) l2 (.lst [V.str "out"])) (a := en) (o := .lst (((txS n).cps.toList.map fun c => V.str ⟨#[c]⟩) ++ [V.str "out"])))
      have sall := ((s4.trans s5).trans s6).trans s7
      have hwl7 : L2.upd (L2.upd (L2.upd (L2.upd H3 l1 (.lst ((txS n).cps.toList.map fun c => V.str ⟨#[c]⟩))) l2 (.lst [V.str "out"])) en (.lst (((txS n).cps.toList.map fun c => V.str ⟨#[c]⟩) ++ [V.str "out"]))) wl (.lst []) wl = some (.lst []) := upd_same
      have hwl0 : H wl = none := (((s13.trans s4).trans s5).trans s6).free hwl
      generalize L2.upd (L2.upd (L2.upd (L2.upd H3 l1 (.lst ((txS n).cps.toList.map fun c => V.str ⟨#[c]⟩))) l2 (.lst [V.str "out"])) en (.lst (((txS n).cps.toList.map fun c => V.str ⟨#[c]⟩) ++ [V.str "out"]))) wl (.lst []) = H7 at *
      have eends : ((txS n).cps.toList.map fun c => V.str ⟨#[c]⟩) ++ [V.str "out"] = (nmS n ++ [("out" : Str)]).map V.str := by
        unfold nmS
        rw [List.map_append, List.map_map]
        rfl
      rw [eends] at hen7
      have s17 := s13.trans sall
      have nenw : en ≠ wl := ne_of_none upd_same hwl
      have hd7 := sall _ _ hd3
      have ndw : dl ≠ wl := ne_of hd7 hwl7 (by intro z; cases z)
      refine ⟨_, rfl, _, rfl, (by rw [htl]; exact Nat.le_trans hn5 (by decide)), _, rfl, _, rfl, _, _, rfl, rfl, a, _, 5, rfl, hS.mono s17, by omega, by omega, by decide, fun H8 u s8 u0 u1 => ⟨_, _, rfl, rfl, _, rfl, by omega, by omega, ?_⟩⟩
      have hwl8 := s8 _ _ hwl7
      have hen8 := s8 _ _ hen7
      have hd8 := s8 _ _ hd7
      have s18 := s17.trans s8
      have e32 : ((txS n).length : Int) + u ≤ 9 := by rw [htl]; omega
      refine for_range (fun i σ H' => ∃ (v3 v7 : Option V) (as : List Addr) (ws : List WireS), σ = [some (.ref a), some (.int at_), some (.str (txS n)), v3, some (.ref dl), some (.ref en), some (.ref wl), v7, none] ∧ SameB wl H8 H' ∧ H' wl = some (.lst (as.map V.ref)) ∧ WiresAt H' as ws ∧ ws.length ≤ i ∧
          ∀ w ∈ ws, 0 ≤ w.2.2 ∧ w.2.2 ≤ 2 ∧ w.1 ∈ nmS n ++ [("out" : Str)] ∧ w.2.1 ∈ nmS n ++ [("out" : Str)])
        ⟨none, none, [], [], rfl, fun _ _ _ e => e, hwl8, .nil, Nat.le_refl _, fun _ h => nomatch h⟩ ?_ ?_
      · rintro i σ H9 hi ⟨v3, v7, as, ws, rfl, sb, hw9, hW9, hwl9, hgood⟩
        have hi9 : i < 9 := by omega
        have hen9 := sb _ _ nenw hen8
        have s09 : Same H H9 := fun b o e => sb _ _ (ne_of_none e hwl0) (s18 _ _ e)
        have hS9 : ScrAt K H9 a := hS.mono s09
        have hel : (((nmS n ++ [("out" : Str)]).map V.str).length : Int) = (n : Int) + 1 := by rw [List.length_map, List.length_append, hnl, List.length_singleton]; omega
        refine ⟨_, rfl, _, _, rfl, rfl, _, rfl, _, _, rfl, rfl, .inl ⟨by decide, by decide⟩, _, _, rfl, rfl, ?_⟩
        refine ⟨_, rfl, .inl ⟨rfl, _, SqL.of hw9⟩, ?_⟩
        refine ⟨_, rfl, _, rfl, _, rfl, _, rfl, en, _, rfl, .inl (SqL.of hen9), a, _, _, rfl, hS9, by omega, by omega, by omega, fun HA va sA a0 a1 => ?_⟩
        obtain ⟨xa, xam, hxa⟩ := atI_int a0 a1
        obtain ⟨na, nam, rfl⟩ := List.mem_map.mp xam
        have henA := sA _ _ hen9
        refine ⟨en, _, va, _, rfl, rfl, SqL.of henA, hxa, ?_⟩
        refine ⟨_, rfl, _, rfl, _, rfl, _, _, rfl, rfl, _, rfl, en, _, rfl, .inl (SqL.of henA), a, _, _, rfl, hS9.mono sA, by omega, by omega, by omega, fun HB vb sB b0 b1 => ?_⟩
        obtain ⟨xb, xbm, hxb⟩ := atI_int b0 b1
        obtain ⟨nb, nbm, rfl⟩ := List.mem_map.mp xbm
        refine ⟨en, _, vb, _, rfl, rfl, SqL.of (sB _ _ henA), hxb, ?_⟩
        refine ⟨(by show 5 ≤ sizeLine; decide), fun tt htt => ?_⟩
        have sC := Same.upd (o := .tup [V.int 0, V.int 0, V.int 1, V.int 1, V.int 2]) htt
        have htt1 : L2.upd HB tt (.tup [V.int 0, V.int 0, V.int 1, V.int 1, V.int 2]) tt = some (.tup ([0, 0, 1, 1, 2].map V.int)) := upd_same
        generalize L2.upd HB tt (.tup [V.int 0, V.int 0, V.int 1, V.int 1, V.int 2]) = HC at *
        have s9C := (sA.trans sB).trans sC
        refine ⟨_, rfl, _, rfl, _, _, rfl, rfl, a, _, 5, rfl, hS9.mono s9C, by omega, by omega, by decide, fun HD vd sD d0 d1 => ?_⟩
        obtain ⟨xd, xdm, hxd⟩ := atI_int (xs := ([0, 0, 1, 1, 2] : List Int).map V.int) d0 (by simpa using d1)
        obtain ⟨nd, ndm, rfl⟩ := List.mem_map.mp xdm
        refine ⟨tt, _, vd, _, rfl, rfl, SqT.of (sD _ _ htt1), hxd, ?_⟩
        refine ⟨(by show 3 ≤ sizeLine; decide), fun tw htw => ?_⟩
        have sE := Same.upd (o := .tup [V.str na, V.str nb, V.int nd]) htw
        have htw1 : L2.upd HD tw (.tup [V.str na, V.str nb, V.int nd]) tw = some (.tup (wtup (na, nb, nd))) := upd_same
        generalize L2.upd HD tw (.tup [V.str na, V.str nb, V.int nd]) = HE at *
        have s9E := (s9C.trans sD).trans sE
        have hwE := s9E _ _ hw9
        refine ⟨wl, _, _, rfl, rfl, hwE, (by rw [List.length_map, hW9.length]; exact Nat.lt_of_le_of_lt hwl9 (Nat.lt_of_lt_of_le hi9 (by decide))), ?_⟩
        refine ⟨_, _, as ++ [tw], ws ++ [(na, nb, nd)], rfl, fun b o hb e => by rw [upd_ne hb]; exact s9E _ _ (sb b o hb e), by rw [upd_same, List.map_append]; rfl, ?_, by rw [List.length_append, List.length_singleton]; omega, fun w hw => ?_⟩
        · have hall := Paired.snoc (hW9.mono s9E) htw1
          exact WiresAt.monoB (D := wl) (fun b o hb e => by rw [upd_ne hb]; exact e) hwE hall
        · rcases List.mem_append.mp hw with z | z
          · exact hgood w z
          · rw [List.mem_singleton] at z
            subst z
            have : nd = 0 ∨ nd = 1 ∨ nd = 2 := by
              simp at ndm
              omega
            exact ⟨by show 0 ≤ nd; omega, by show nd ≤ 2; omega, nam, nbm⟩
      · rintro σ H9 ⟨v3, v7, as, ws, rfl, sb, hw9, hW9, hwl9, hgood⟩
        refine ⟨_, rfl, _, rfl, (by show 2 ≤ sizeLine; decide), fun t ht => ?_⟩
        have st := Same.upd (o := .tup [V.ref dl, V.ref wl]) ht
        have s09 : Same H H9 := fun b o e => sb _ _ (ne_of_none e hwl0) (s18 _ _ e)
        exact k _ t dl wl n d as ws (s09.trans st) upd_same hdl0 (st _ _ (sb _ _ ndw hd8)) hwl0 (st _ _ hw9) (hW9.mono st) hn2 hn5 hd0 hdb (by omega) hgood
end
end Bw

/-! #### M3 -/
set_option linter.all false
namespace Bw
section
variable {α : Type} [DecidableEq α]
/-! ### labels of ways: registers, delay -/
abbrev Tab (α : Type) := α → α → Option (Int × Int)
def sumI {β : Type} (g : β → Int) (l : List β) : Int := (l.map g).sum
theorem sumI_le {β : Type} {f g : β → Int} : ∀ {l : List β}, (∀ p ∈ l, g p ≤ f p) → sumI g l ≤ sumI f l
  | [], _ => Int.le_refl _
  | a :: r, h => by
    have h1 := h a List.mem_cons_self
    have h2 := sumI_le (l := r) fun p hp => h p (List.mem_cons_of_mem _ hp)
    unfold sumI at *
    rw [List.map_cons, List.sum_cons, List.map_cons, List.sum_cons]
    omega
theorem sumI_lt {β : Type} {f g : β → Int} : ∀ {l : List β}, (∀ p ∈ l, g p ≤ f p) → (∃ p ∈ l, g p + 1 ≤ f p) → sumI g l + 1 ≤ sumI f l
  | a :: r, h, ⟨p, hp, e⟩ => by
    have h1 := h a List.mem_cons_self
    have hr : ∀ p ∈ r, g p ≤ f p := fun p hp => h p (List.mem_cons_of_mem _ hp)
    have h2 := sumI_le hr
    rcases List.mem_cons.mp hp with z | z
    · subst z
      unfold sumI at *
      rw [List.map_cons, List.sum_cons, List.map_cons, List.sum_cons]
      omega
    · have h3 := sumI_lt hr ⟨p, z, e⟩
      unfold sumI at *
      rw [List.map_cons, List.sum_cons, List.map_cons, List.sum_cons]
      omega
theorem sumI_const {β : Type} {f : β → Int} {c : Int} : ∀ {l : List β}, (∀ p ∈ l, f p ≤ c) → (0 ≤ c) → sumI f l ≤ l.length * c
  | [], _, _ => by simp [sumI]
  | a :: r, h, hc => by
    have h1 := h a List.mem_cons_self
    have h2 := sumI_const (l := r) (fun p hp => h p (List.mem_cons_of_mem _ hp)) hc
    unfold sumI at *
    rw [List.map_cons, List.sum_cons, List.length_cons, Int.natCast_add, Int.add_mul]
    omega
theorem sumI_nn {β : Type} {f : β → Int} : ∀ {l : List β}, (∀ p ∈ l, 0 ≤ f p) → 0 ≤ sumI f l
  | [], _ => Int.le_refl _
  | a :: r, h => by
    have h1 := h a List.mem_cons_self
    have h2 := sumI_nn (l := r) fun p hp => h p (List.mem_cons_of_mem _ hp)
    unfold sumI at *
    rw [List.map_cons, List.sum_cons]
    omega
def pairsOf (ks : List α) : List (α × α) := ks.flatMap fun h => ks.map fun t => (h, t)
theorem mem_pairs {ks : List α} {h t : α} : (h, t) ∈ pairsOf ks ↔ h ∈ ks ∧ t ∈ ks := by
  unfold pairsOf
  rw [List.mem_flatMap]
  constructor
  · rintro ⟨a, ha, hm⟩
    obtain ⟨b, hb, e⟩ := List.mem_map.mp hm
    cases e
    exact ⟨ha, hb⟩
  · rintro ⟨h1, h2⟩
    exact ⟨h, h1, List.mem_map.mpr ⟨t, h2, rfl⟩⟩
theorem pairs_len (ks : List α) : (pairsOf ks).length = ks.length * ks.length := by
  unfold pairsOf
  rw [List.length_flatMap]
  simp [List.map_const', List.sum_replicate_nat]
def rkL : Option (Int × Int) → Int
  | none => 186588
  | some (m, e) => m * 2556 + (2555 - e)
theorem rkL_some (m e : Int) : rkL (some (m, e)) = m * 2556 + (2555 - e) := rfl
def phi (ks : List α) (f : Tab α) : Int := sumI (fun p => rkL (f p.1 p.2)) (pairsOf ks)
def cntF (ks : List α) (f : Tab α) : Nat := ((pairsOf ks).filter fun p => (f p.1 p.2).isSome).length
def setT (f : Tab α) (h t : α) (x : Int × Int) : Tab α := fun a b => if a = h ∧ b = t then some x else f a b
theorem setT_same (f : Tab α) (h t : α) (x : Int × Int) : setT f h t x h t = some x := if_pos ⟨rfl, rfl⟩
theorem setT_ne {f : Tab α} {h t a b : α} {x : Int × Int} (n : ¬ (a = h ∧ b = t)) : setT f h t x a b = f a b := if_neg n
/-- what holds of all labels: b the beat, L the potential -/
structure InvF (ks : List α) (L : α → Int) (b : Int) (f : Tab α) : Prop where
  lab : ∀ h t m e, f h t = some (m, e) → h ∈ ks ∧ t ∈ ks ∧ 0 ≤ m ∧ 0 ≤ e ∧ e ≤ m * b + L t ∧ m ≤ 2 * (cntF ks f : Int)
theorem cnt_pairs (ks : List α) (f : Tab α) : cntF ks f ≤ (pairsOf ks).length := List.length_filter_le _ _
theorem cnt_set {ks : List α} {f : Tab α} {h t : α} {x : Int × Int} (hh : h ∈ ks) (ht : t ∈ ks) (n : f h t = none) : cntF ks f + 1 ≤ cntF ks (setT f h t x) := by
  unfold cntF
  refine filter_lt (fun p _ hp => ?_) ⟨(h, t), mem_pairs.mpr ⟨hh, ht⟩, ?_, ?_⟩
  · by_cases e : p.1 = h ∧ p.2 = t
    · have : setT f h t x p.1 p.2 = some x := if_pos e
      rw [this]
      rfl
    · rw [setT_ne e]
      exact hp
  · show (setT f h t x h t).isSome = true
    rw [setT_same]
    rfl
  · show (f h t).isSome = false
    rw [n]
    rfl
theorem cnt_mono {ks : List α} {f : Tab α} {h t : α} {x : Int × Int} : cntF ks f ≤ cntF ks (setT f h t x) := by
  unfold cntF
  have : ∀ l : List (α × α), (l.filter fun p => (f p.1 p.2).isSome).length ≤ (l.filter fun p => (setT f h t x p.1 p.2).isSome).length := by
    intro l
    induction l with
    | nil => exact Nat.le_refl _
    | cons p r ih =>
      rw [List.filter_cons, List.filter_cons]
      by_cases hp : (f p.1 p.2).isSome = true
      · have h2 : (setT f h t x p.1 p.2).isSome = true := by
          by_cases e : p.1 = h ∧ p.2 = t
          · have : setT f h t x p.1 p.2 = some x := if_pos e
            rw [this]; rfl
          · rw [setT_ne e]; exact hp
        rw [if_pos hp, if_pos h2, List.length_cons, List.length_cons]
        omega
      · rw [if_neg hp]
        by_cases h2 : (setT f h t x p.1 p.2).isSome = true
        · rw [if_pos h2, List.length_cons]; omega
        · rw [if_neg h2]; exact ih
  exact this _
variable {ks : List α} {L : α → Int} {b : Int} {f : Tab α}
theorem rk_some_le (hb : 0 ≤ b) (hb35 : b ≤ 35) (hL : ∀ k ∈ ks, L k ≤ b) (hk : ks.length ≤ 6) (I : InvF ks L b f) {h t : α} {m e : Int} (h1 : f h t = some (m, e)) : 0 ≤ rkL (f h t) ∧ rkL (f h t) ≤ 186587 ∧ m ≤ 72 ∧ e ≤ 2555 := by
  obtain ⟨hh, ht, m0, e0, e1, m1⟩ := I.lab h t m e h1
  have hc := cnt_pairs ks f
  rw [pairs_len] at hc
  have h36 : ks.length * ks.length ≤ 36 := Nat.mul_le_mul hk hk
  have hm : m ≤ 72 := by omega
  have hLt := hL t ht
  have h2 : m * b ≤ 72 * 35 := by
    have h3 : m * b ≤ 72 * b := Int.mul_le_mul_of_nonneg_right hm hb
    omega
  have he : e ≤ 2555 := by omega
  rw [h1, rkL_some]
  exact ⟨by omega, by omega, hm, he⟩
theorem rk_bounds (hb : 0 ≤ b) (hb35 : b ≤ 35) (hL : ∀ k ∈ ks, L k ≤ b) (hk : ks.length ≤ 6) (I : InvF ks L b f) (h t : α) : 0 ≤ rkL (f h t) ∧ rkL (f h t) ≤ 186588 := by
  cases e : f h t with
  | none => exact ⟨by decide, by decide⟩
  | some x =>
    obtain ⟨m, δ⟩ := x
    have := rk_some_le hb hb35 hL hk I e
    rw [e] at this
    omega
theorem phi_bounds (hb : 0 ≤ b) (hb35 : b ≤ 35) (hL : ∀ k ∈ ks, L k ≤ b) (hk : ks.length ≤ 6) (I : InvF ks L b f) : 0 ≤ phi ks f ∧ phi ks f ≤ 6717168 := by
  refine ⟨sumI_nn fun p _ => (rk_bounds hb hb35 hL hk I p.1 p.2).1, ?_⟩
  have h1 := sumI_const (l := pairsOf ks) (f := fun p => rkL (f p.1 p.2)) (c := 186588) (fun p _ => (rk_bounds hb hb35 hL hk I p.1 p.2).2) (by decide)
  have hc := pairs_len ks
  have h36 : ks.length * ks.length ≤ 36 := Nat.mul_le_mul hk hk
  have : ((pairsOf ks).length : Int) * 186588 ≤ 36 * 186588 := Int.mul_le_mul_of_nonneg_right (by omega) (by decide)
  unfold phi
  omega
/-- one better label -/
theorem step (hb : 0 ≤ b) (hb35 : b ≤ 35) (hL : ∀ k ∈ ks, L k ≤ b) (hk : ks.length ≤ 6) (I : InvF ks L b f) {h t : α} {m e : Int} (hh : h ∈ ks) (ht : t ∈ ks) (m0 : 0 ≤ m) (e0 : 0 ≤ e) (e1 : e ≤ m * b + L t)
    (old : (f h t = none ∧ m ≤ 2 * (cntF ks f : Int) + 2) ∨ ∃ m' e', f h t = some (m', e') ∧ (m < m' ∨ (m = m' ∧ e > e'))) :
    InvF ks L b (setT f h t (m, e)) ∧ phi ks (setT f h t (m, e)) + 1 ≤ phi ks f := by
  have cm := cnt_mono (ks := ks) (f := f) (h := h) (t := t) (x := (m, e))
  have mle : m ≤ 2 * (cntF ks (setT f h t (m, e)) : Int) := by
    rcases old with ⟨n, h1⟩ | ⟨m', e', h1, h2⟩
    · have := cnt_set (x := (m, e)) hh ht n
      omega
    · obtain ⟨_, _, _, _, _, h3⟩ := I.lab h t m' e' h1
      omega
  have I' : InvF ks L b (setT f h t (m, e)) := ⟨fun a c m2 e2 h1 => by
    by_cases z : a = h ∧ c = t
    · obtain ⟨rfl, rfl⟩ := z
      rw [setT_same] at h1
      cases h1
      exact ⟨hh, ht, m0, e0, e1, mle⟩
    · rw [setT_ne z] at h1
      obtain ⟨q1, q2, q3, q4, q5, q6⟩ := I.lab a c m2 e2 h1
      exact ⟨q1, q2, q3, q4, q5, by omega⟩⟩
  refine ⟨I', ?_⟩
  have hs := rk_some_le hb hb35 hL hk I' (setT_same f h t (m, e))
  have hlt : rkL (setT f h t (m, e) h t) + 1 ≤ rkL (f h t) := by
    rcases old with ⟨n, _⟩ | ⟨m', e', h1, h2⟩
    · rw [n]
      have : rkL (none : Option (Int × Int)) = 186588 := rfl
      omega
    · have h3 := rk_some_le hb hb35 hL hk I h1
      rw [setT_same, h1, rkL_some, rkL_some]
      rcases h2 with h2 | ⟨h2, h4⟩
      · omega
      · omega
  unfold phi
  refine sumI_lt (fun p _ => ?_) ⟨(h, t), mem_pairs.mpr ⟨hh, ht⟩, hlt⟩
  by_cases z : p.1 = h ∧ p.2 = t
  · have e1 : f p.1 p.2 = f h t := by rw [z.1, z.2]
    have e2 : setT f h t (m, e) p.1 p.2 = setT f h t (m, e) h t := by rw [z.1, z.2]
    rw [e1, e2]
    omega
  · rw [setT_ne z]
    exact Int.le_refl _
end
end Bw

/-! #### D12 -/
set_option Elab.async false
set_option linter.all false
set_option maxRecDepth 100000
set_option maxHeartbeats 4000000
namespace Bw
open PySem PySem.Spec PyProof.Rows L2
/-! ### ways in the heap -/
theorem pb_ : ¬ (("plan" : Str) = "best") := by decide +kernel
def wfs (p bd : Addr) : List (Str × V) := putF "best" (.ref bd) (putF "plan" (.ref p) [])
theorem wfs_plan (p bd : Addr) : (wfs p bd).lookup ("plan" : Str) = some (.ref p) := by
  unfold wfs
  rw [lookup_putF, if_neg pb_, lookup_putF, if_pos rfl]
theorem wfs_best (p bd : Addr) : (wfs p bd).lookup ("best" : Str) = some (.ref bd) := by
  unfold wfs
  rw [lookup_putF, if_pos rfl]
theorem wfs_no (p bd : Addr) {m : Str} (h1 : ¬ m = "best") (h2 : ¬ m = "plan") : (wfs p bd).lookup m = none := by
  unfold wfs
  rw [lookup_putF, if_neg h1, lookup_putF, if_neg h2]
  all_goals rfl
structure WTxt (K : PySem.W.Frag) (C : Addr) : Prop where
  cl : Cls K C
  nP : NoAttr K C "plan"
  nB : NoAttr K C "best"
def key2 (h t : Str) : List Key := [Sum.inr h, Sum.inr t]
/-- the label (m, e) stands at v; F is what is still to be lowered -/
def LabV (H : Hp) (F : Int) (v : V) (x : Int × Int) : Prop := ∃ (tp pp : Addr) (xs : List V), v = .ref tp ∧ H tp = some (.tup [.int x.1, .int x.2, .ref pp]) ∧ H pp = some (.tup xs) ∧ (xs.length : Int) + F ≤ 6717168
def LabO (H : Hp) (F : Int) : Option V → Option (Int × Int) → Prop
  | none, none => True
  | some v, some x => LabV H F v x
  | _, _ => False
/-- the facts of the plan that the ways lean on -/
structure Pot (ks : List Str) (d L : Str → Int) (ws : List WireS) (b : Int) : Prop where
  b0 : 0 ≤ b
  b35 : b ≤ 35
  Lb : ∀ k ∈ ks, L k ≤ b
  d0 : ∀ k, 0 ≤ d k
  dL : ∀ k, d k ≤ L k
  k6 : ks.length ≤ 6
  out : ("out" : Str) ∈ ks
  dout : d ("out" : Str) = 0
  wl : ws.length ≤ 1000
  we : ∀ w ∈ ws, w.1 ∈ ks ∧ w.2.1 ∈ ks ∧ 0 ≤ w.2.2 ∧ w.2.2 ≤ 2
  wz : ∀ w ∈ ws, w.2.2 = 0 → w.1 ≠ ("out" : Str) → L w.1 + d w.2.1 ≤ L w.2.1
structure InvG (ks : List Str) (d L : Str → Int) (b : Int) (f : Tab Str) : Prop where
  inv : InvF ks L b f
  diag : ∀ k ∈ ks, f k k = some (0, d k)
def Ent (ks : List Str) (L : Str → Int) (b : Int) (H : Hp) (F : Int) (kv : List Key × V) : Prop := ∃ h t x, kv.1 = key2 h t ∧ LabV H F kv.2 x ∧ 0 ≤ x.1 ∧ x.2 ≤ x.1 * b + L t ∧ h ∈ ks ∧ t ∈ ks
structure TabAt (ks : List Str) (L : Str → Int) (b : Int) (H : Hp) (bd : Addr) (f : Tab Str) : Prop where
  ex : ∃ kvs, H bd = some (.dT kvs) ∧ (kvs.length : Int) + phi ks f ≤ 6717174 ∧ (∀ h t, LabO H (phi ks f) (valV kvs (key2 h t)) (f h t)) ∧ ∀ kv ∈ kvs, Ent ks L b H (phi ks f) kv
theorem LabV.mono {H H' : Hp} {F F' : Int} {v : V} {x : Int × Int} (h : LabV H F v x) (s : ∀ b xs, H b = some (.tup xs) → H' b = some (.tup xs)) (hF : F' ≤ F) : LabV H' F' v x := by
  obtain ⟨tp, pp, xs, e, h1, h2, h3⟩ := h
  exact ⟨tp, pp, xs, e, s _ _ h1, s _ _ h2, by omega⟩
theorem LabO.mono {H H' : Hp} {F F' : Int} {v : Option V} {x : Option (Int × Int)} (h : LabO H F v x) (s : ∀ b xs, H b = some (.tup xs) → H' b = some (.tup xs)) (hF : F' ≤ F) : LabO H' F' v x := by
  cases v with
  | none =>
    cases x with
    | none => exact h
    | some x => exact h
  | some v =>
    cases x with
    | none => exact h
    | some x => exact LabV.mono h s hF
theorem Ent.mono {ks : List Str} {L : Str → Int} {b : Int} {H H' : Hp} {F F' : Int} {kv : List Key × V} (h : Ent ks L b H F kv) (s : ∀ b xs, H b = some (.tup xs) → H' b = some (.tup xs)) (hF : F' ≤ F) : Ent ks L b H' F' kv := by
  obtain ⟨h1, t, x, e, l, r⟩ := h
  exact ⟨h1, t, x, e, LabV.mono l s hF, r⟩
theorem TabAt.mono {ks : List Str} {L : Str → Int} {b : Int} {H H' : Hp} {bd : Addr} {f : Tab Str} (h : TabAt ks L b H bd f) (s : ∀ b xs, H b = some (.tup xs) → H' b = some (.tup xs)) (e : H' bd = H bd) : TabAt ks L b H' bd f := by
  obtain ⟨kvs, h1, h2, h3, h4⟩ := h
  exact ⟨kvs, e.trans h1, h2, fun a t => (h3 a t).mono s (Int.le_refl _), fun kv hm => (h4 kv hm).mono s (Int.le_refl _)⟩
theorem key2_inj {a b h t : Str} : key2 a b = key2 h t ↔ a = h ∧ b = t := by
  unfold key2
  constructor
  · intro e
    injection e with e1 e2
    injection e2 with e2 _
    exact ⟨Sum.inr.inj e1, Sum.inr.inj e2⟩
  · rintro ⟨rfl, rfl⟩
    rfl
/-- a better label is written -/
theorem TabAt.put {ks : List Str} {L : Str → Int} {b : Int} {H H' : Hp} {bd : Addr} {f : Tab Str} {h t : Str} {x : Int × Int} {v : V} {kvs : List (List Key × V)} (hbd : H bd = some (.dT kvs)) (hl : (kvs.length : Int) + phi ks f ≤ 6717174) (h3 : ∀ h t, LabO H (phi ks f) (valV kvs (key2 h t)) (f h t))
    (h4 : ∀ kv ∈ kvs, Ent ks L b H (phi ks f) kv) (hphi : phi ks (setT f h t x) + 1 ≤ phi ks f) (s : ∀ b xs, H b = some (.tup xs) → H' b = some (.tup xs)) (e : H' bd = some (.dT (putK kvs (key2 h t) v))) (hv : LabV H' (phi ks (setT f h t x)) v x)
    (hx : 0 ≤ x.1 ∧ x.2 ≤ x.1 * b + L t ∧ h ∈ ks ∧ t ∈ ks) : TabAt ks L b H' bd (setT f h t x) := by
  refine ⟨_, e, ?_, fun a c => ?_, fun kv hm => ?_⟩
  · have := putK_le kvs (key2 h t) v
    omega
  · rw [valV_put]
    by_cases z : a = h ∧ c = t
    · obtain ⟨rfl, rfl⟩ := z
      rw [if_pos rfl, setT_same]
      exact hv
    · rw [if_neg (fun q => z (key2_inj.mp q)), setT_ne z]
      exact (h3 a c).mono s (by omega)
  · unfold putK at hm
    have hnew : Ent ks L b H' (phi ks (setT f h t x)) (key2 h t, v) := ⟨h, t, x, rfl, hv, hx⟩
    split at hm
    · obtain ⟨kv0, hm0, rfl⟩ := List.mem_map.mp hm
      by_cases q : kv0.1 = key2 h t
      · rw [if_pos q, q]
        exact hnew
      · rw [if_neg q]
        exact (h4 kv0 hm0).mono s (by omega)
    · rcases List.mem_append.mp hm with q | q
      · exact (h4 kv q).mono s (by omega)
      · rw [List.mem_singleton] at q
        rw [q]
        exact hnew
/-- what is still to be looked at -/
def RestAt (H : Hp) (rl : Addr) (rs : List Addr) (ps : List (Str × Str)) (f : Tab Str) : Prop := H rl = some (.lst (rs.map V.ref)) ∧ Paired (fun r (e : Str × Str) => H r = some (.tup (ptup e))) rs ps ∧ ∀ e ∈ ps, (f e.1 e.2).isSome = true
/-- all but the two that are written is as it was -/
def Same2 (bd rl : Addr) (H H' : Hp) : Prop := ∀ b o, b ≠ bd → b ≠ rl → H b = some o → H' b = some o
theorem Same2.tup {bd rl : Addr} {H H' : Hp} {kvs : List (List Key × V)} {xs : List V} (s : Same2 bd rl H H') (h1 : H bd = some (.dT kvs)) (h2 : H rl = some (.lst xs)) : ∀ b ys, H b = some (.tup ys) → H' b = some (.tup ys) :=
  fun b ys e => s b _ (ne_of e h1 (by intro z; cases z)) (ne_of e h2 (by intro z; cases z)) e
theorem Same2.trans {bd rl : Addr} {H H1 H2 : Hp} (s : Same2 bd rl H H1) (t : Same2 bd rl H1 H2) : Same2 bd rl H H2 := fun b o h1 h2 e => t b o h1 h2 (s b o h1 h2 e)
theorem Same2.of {bd rl : Addr} {H H1 : Hp} (s : Same H H1) : Same2 bd rl H H1 := fun b o _ _ e => s b o e
theorem PlanAt.mono2 {C : Addr} {bd rl : Addr} {H H' : Hp} {kvs : List (List Key × V)} {xs : List V} {p dl wt : Addr} {ks : List Str} {d : Str → Int} {as : List Addr} {ws : List WireS} (s : Same2 bd rl H H') (h1 : H bd = some (.dT kvs)) (h2 : H rl = some (.lst xs)) (h : PlanAt C H p dl wt ks d as ws) : PlanAt C H' p dl wt ks d as ws := by
  obtain ⟨⟨dx, a1⟩, a2, a3, a4⟩ := h
  have st := Same2.tup s h1 h2
  exact ⟨⟨dx, s _ _ (ne_of a1 h1 (by intro z; cases z)) (ne_of a1 h2 (by intro z; cases z)) a1⟩, s _ _ (ne_of a2 h1 (by intro z; cases z)) (ne_of a2 h2 (by intro z; cases z)) a2, st _ _ a3, Paired.mapP a4 fun a w e => st _ _ e⟩
section
variable {P : Program} {w : World} {K : PySem.W.Frag} {mg : Str → Option Value} {base : Heap}
def WayAt (CW : Addr) (H : Hp) (q p bd : Addr) : Prop := ∃ dx, H q = some (.ins CW dx (wfs p bd))
def spExtend (C CW : Addr) : Sp := fun vs H Q _ => ∃ (q p dl wt bd rl : Addr) (ks : List Str) (d L : Str → Int) (as : List Addr) (ws : List WireS) (b : Int) (f : Tab Str) (rs : List Addr) (ps : List (Str × Str)) (h t : Str),
  vs = [.ref q, .str h, .str t, .ref rl] ∧ PlanAt C H p dl wt ks d as ws ∧ WayAt CW H q p bd ∧ TabAt ks L b H bd f ∧ InvG ks d L b f ∧ Pot ks d L ws b ∧ RestAt H rl rs ps f ∧ (rs.length : Int) + phi ks f ≤ 6717174 ∧ (f h t).isSome = true ∧ (t = ("out" : Str) → h = ("out" : Str)) ∧
  ∀ H' f' rs' ps', Same2 bd rl H H' → TabAt ks L b H' bd f' → InvG ks d L b f' → RestAt H' rl rs' ps' f' → (rs'.length : Int) + phi ks f' ≤ rs.length + phi ks f → phi ks f' ≤ phi ks f → Q .non H'
abbrev nExtend : List Str := ["self", "here", "there", "rest", "many", "delay", "path", "at", "first", "goal", "registers", "told", "old"]
theorem scExtend : FnScope nExtend ["self", "here", "there", "rest"] (defScope sExtend) := ⟨rfl, rfl, rfl, by decide +kernel, rfl, by decide +kernel, by decide +kernel⟩
/-- is the new label the better one -/
def better (x : Int × Int) : Option (Int × Int) → Bool
  | none => true
  | some y => if decide (x.1 < y.1) = true then true else if decide (x.1 = y.1) = true then decide (y.2 < x.2) else false
theorem better_some (m1 e1 : Int) (y : Int × Int) : better (m1, e1) (some y) = if decide (m1 < y.1) = true then true else if decide (m1 = y.1) = true then decide (y.2 < e1) else false := rfl
theorem better_run {σ : L2.St} {H : Hp} {Q : Bool → Hp → Prop} {tn : Addr} {m1 e1 : Int} {z o : V} {old : Option (Int × Int)} (h11 : σ[11]? = some (some (.ref tn))) (htn : H tn = some (.tup [.int m1, .int e1, z])) (h12 : σ[12]? = some (some o))
    (ho : match old with | none => o = .non | some y => ∃ t u, o = .ref t ∧ H t = some (.tup [.int y.1, .int y.2, u])) (hQ : Q (better (m1, e1) old) H) :
    tOr (tB (tIsN (tVar 12))) (tOr (tTest (tOp (rI0 fun i j => .bl (decide (i < j))) (tOp (rIxT K) (tVar 11) (tC (.int 0))) (tOp (rIxT K) (tVar 12) (tC (.int 0)))))
      (tAnd (tTest (tOp rEq (tOp (rIxT K) (tVar 11) (tC (.int 0))) (tOp (rIxT K) (tVar 12) (tC (.int 0))))) (tTest (tOp (rI0 fun i j => .bl (decide (j < i))) (tOp (rIxT K) (tVar 11) (tC (.int 1))) (tOp (rIxT K) (tVar 12) (tC (.int 1))))))) σ H Q := by
  cases old with
  | none =>
    have ho : o = .non := ho
    subst ho
    exact ⟨_, h12, _, rfl, iteT hQ⟩
  | some y =>
    obtain ⟨t, u, rfl, ht⟩ := ho
    refine ⟨_, h12, _, rfl, iteF ?_⟩
    refine ⟨_, h11, tn, _, 0, .int m1, rfl, rfl, SqT.of htn, atI_nat (j := 0) rfl, _, h12, t, _, 0, .int y.1, rfl, rfl, SqT.of ht, atI_nat (j := 0) rfl, _, _, rfl, rfl, _, rfl, ?_⟩
    rw [better_some] at hQ
    by_cases h1 : m1 < y.1
    · rw [decide_eq_true h1]
      rw [decide_eq_true h1, if_pos rfl] at hQ
      exact iteT hQ
    · rw [decide_eq_false h1]
      rw [decide_eq_false h1, if_neg Bool.false_ne_true] at hQ
      refine iteF ?_
      refine ⟨_, h11, tn, _, 0, .int m1, rfl, rfl, SqT.of htn, atI_nat (j := 0) rfl, _, h12, t, _, 0, .int y.1, rfl, rfl, SqT.of ht, atI_nat (j := 0) rfl, rfl, _, rfl, ?_⟩
      by_cases h2 : m1 = y.1
      · rw [decide_eq_true (by rw [h2])]
        rw [decide_eq_true h2, if_pos rfl] at hQ
        exact iteT ⟨_, h11, tn, _, 1, .int e1, rfl, rfl, SqT.of htn, atI_nat (j := 1) rfl, _, h12, t, _, 1, .int y.2, rfl, rfl, SqT.of ht, atI_nat (j := 1) rfl, _, _, rfl, rfl, _, rfl, hQ⟩
      · rw [decide_eq_false (by intro q; injection q with q; exact h2 q)]
        rw [decide_eq_false h2, if_neg Bool.false_ne_true] at hQ
        exact iteF hQ
theorem better_old {x : Int × Int} {o : Option (Int × Int)} (h : better x o = true) : o = none ∨ ∃ m' e', o = some (m', e') ∧ (x.1 < m' ∨ (x.1 = m' ∧ x.2 > e')) := by
  cases o with
  | none => exact .inl rfl
  | some y =>
    refine .inr ⟨y.1, y.2, rfl, ?_⟩
    obtain ⟨x1, x2⟩ := x
    rw [better_some] at h
    by_cases h1 : x1 < y.1
    · exact .inl h1
    · rw [decide_eq_false h1, if_neg Bool.false_ne_true] at h
      by_cases h2 : x1 = y.1
      · rw [decide_eq_true h2, if_pos rfl] at h
        exact .inr ⟨h2, of_decide_eq_true h⟩
      · rw [decide_eq_false h2, if_neg Bool.false_ne_true] at h
        cases h
theorem ok_extend {f C CW : Addr} {fd : FuncData} (F : Fun K "extend" "Ways.extend" sExtend f fd) (B : Bt mg) (T : PTxt K C) (U : WTxt K CW) : FnOk P w K mg base CX0 1 f fd ["self", "here", "there", "rest"] (spExtend C CW) := by
  refine F.ok scExtend (fun vs H Q E h => ?_) (fun cdv A outer s H vs Q E hr h => ?_)
  · obtain ⟨q, p, dl, wt, bd, rl, ks, d, L, as, ws, b, f, rs, ps, h, t, rfl, _⟩ := h
    rfl
  · obtain ⟨q, p, dl, wt, bd, rl, ks, d, L, as, ws, b, f, rs, ps, h, t, rfl, hP, hW, hT, hI, pot, hR, hRl, hf, hto, k⟩ := h
    have hu := hu_of hr
    refine ⟨_, pss_cons (ps_asg (pe_dget hu (pe_fld (pv 0) rfl) (pe_tup (pa_cons (pv 1) (pa_cons (pv 2) pa_nil))) (fun _ _ => rfl)) (pg_tup rfl (pgs_cons (pg_name (i := 4) scExtend.nd rfl (Or.inl rfl)) (pgs_cons (pg_name (i := 5) scExtend.nd rfl (Or.inl rfl)) (pgs_cons (pg_name (i := 6) scExtend.nd rfl (Or.inl rfl)) pgs_nil)))))
      (pss_one (ps_for PassesOwn.never rfl (pi_enumT (by rfl) B.enumerate (pa_cons (pe_fld (pe_fld (pv 0) rfl) rfl) pa_nil))
          (pg_tup rfl (pgs_cons (pg_name (i := 7) scExtend.nd rfl (Or.inl rfl)) (pgs_cons (pg_tup rfl (pgs_cons (pg_name (i := 8) scExtend.nd rfl (Or.inl rfl)) (pgs_cons (pg_name (i := 9) scExtend.nd rfl (Or.inl rfl)) (pgs_cons (pg_name (i := 10) scExtend.nd rfl (Or.inl rfl)) pgs_nil)))) pgs_nil)))
        (pss_one (ps_if (pw_and (pt_cmpR op_eq (pv 8) (pv 2) (nomark _)) (pw_and1 (pt_cmpR op_ne (pv 9) (pv 1) (nomark _)))).pt
          (pss_cons (ps_set (i := 11) scExtend.nd rfl (Or.inl rfl) (pe_tup (pa_cons (pe_op op_add (pv 4) (pv 10)) (pa_cons (pe_op op_add (pv 5) (pe_dget hu (pe_fld (pe_fld (pv 0) rfl) rfl) (pv 9) (fun _ _ => rfl))) (pa_cons (pe_tup (StX.pa_star (pv 6) (pa_cons (pv 7) pa_nil))) pa_nil)))))
          (pss_cons (ps_set (i := 12) scExtend.nd rfl (Or.inl rfl) (pe_dget1 hu (pe_fld (pv 0) rfl) (pe_tup (pa_cons (pv 1) (pa_cons (pv 9) pa_nil))) ⟨rfl, rfl, rfl, rfl⟩))
          (pss_one (ps_if (pw_or (pt_cmp (pc_isN (pv 12))) (pw_or (pt_cmpR op_lt (pe_ix ix_tup (pv 11) pe_int (fun _ _ => rfl)) (pe_ix ix_tup (pv 12) pe_int (fun _ _ => rfl)) (nomark _))
              (pw_or1 (pw_and (pt_cmpR op_eq (pe_ix ix_tup (pv 11) pe_int (fun _ _ => rfl)) (pe_ix ix_tup (pv 12) pe_int (fun _ _ => rfl)) (nomark _)) (pw_and1 (pt_cmpR op_gt (pe_ix ix_tup (pv 11) pe_int (fun _ _ => rfl)) (pe_ix ix_tup (pv 12) pe_int (fun _ _ => rfl)) (nomark _)))).pt))).pt
            (pss_cons (ps_dput hu (pe_fld (pv 0) rfl) (pe_tup (pa_cons (pv 1) (pa_cons (pv 9) pa_nil))) (pv 11) rfl)
            (pss_one (ps_expr (pe_bm PySem.F.plainAttrs_list PySem.F.slot_list_append PySem.F.type_list_append mt_append (pv 3) (pa_cons (pe_tup (pa_cons (pv 1) (pa_cons (pv 9) pa_nil))) pa_nil))))) pss_nil)))) pss_nil)))), ?_⟩
    obtain ⟨⟨dx, hp⟩, hdl, hwt, hws⟩ := id hP
    obtain ⟨dxw, hq⟩ := id hW
    obtain ⟨kvs0, hbd0, hl0, hlab0, hent0⟩ := id hT
    obtain ⟨hrl0, hrp0, hrf0⟩ := id hR
    obtain ⟨x0, hx0⟩ := Option.isSome_iff_exists.mp hf
    obtain ⟨m, e⟩ := x0
    obtain ⟨hhk, htk, m0, e0, eL, mc⟩ := hI.inv.lab h t m e hx0
    refine ⟨_, rfl, q, CW, dxw, _, _, rfl, hq, U.cl, U.nB, wfs_best _ _, _, rfl, _, rfl, (by show 2 ≤ sizeLine; decide), fun k1 hk1 => ?_⟩
    have s1 := Same.upd (o := .tup [V.str h, V.str t]) hk1
    have hk11 : L2.upd H k1 (.tup [V.str h, V.str t]) k1 = some (.tup ((key2 h t).map kV)) := upd_same
    generalize L2.upd H k1 (.tup [V.str h, V.str t]) = H1 at *
    have hlabht := hlab0 h t
    rw [hx0] at hlabht
    cases hval : valV kvs0 (key2 h t) with
    | none => rw [hval] at hlabht; exact hlabht.elim
    | some v0 =>
    rw [hval] at hlabht
    obtain ⟨tp, pp, xs, rfl, htp, hpp, hxl⟩ := hlabht
    refine ⟨bd, _, rfl, hval ▸ DGet.t (k := key2 h t) (s1 _ _ hbd0) hk11, tp, _, rfl, SqT.of (s1 _ _ htp), rfl, _, _, rfl, _, _, rfl, _, _, rfl, rfl, ?_⟩
    refine ⟨_, rfl, q, CW, dxw, _, _, rfl, s1 _ _ hq, U.cl, U.nP, wfs_plan _ _, p, C, dx, _, _, rfl, s1 _ _ hp, T.cl, T.nW, pfs_wires _ _, wt, as.map V.ref, rfl, SqT.of (s1 _ _ hwt), ?_⟩
    have hbd1 := s1 _ _ hbd0
    have hrl1 := s1 _ _ hrl0
    have nbr : bd ≠ rl := ne_of hbd1 hrl1 (by intro z; cases z)
    refine for_it walk_enumT (fun i σ H' => ∃ (f' : Tab Str) (rs' : List Addr) (ps' : List (Str × Str)) (v7 v8 v9 v10 v11 v12 : Option V), σ = [some (.ref q), some (.str h), some (.str t), some (.ref rl), some (.int m), some (.int e), some (.ref pp), v7, v8, v9, v10, v11, v12] ∧ Same2 bd rl H1 H' ∧
        TabAt ks L b H' bd f' ∧ InvG ks d L b f' ∧ RestAt H' rl rs' ps' f' ∧ (rs'.length : Int) + phi ks f' ≤ rs.length + phi ks f ∧ phi ks f' ≤ phi ks f ∧ m ≤ 2 * (cntF ks f' : Int))
      ⟨f, rs, ps, none, none, none, none, none, none, rfl, fun _ _ _ _ z => z, hT.mono (fun b xs z => s1 _ _ z) (by rw [hbd0, hbd1]), hI, ⟨hrl1, Paired.mapP hrp0 fun _ _ z => s1 _ _ z, hrf0⟩, Int.le_refl _, Int.le_refl _, mc⟩
      (fun i σ H' _ ⟨_, _, _, _, _, _, _, _, _, _, s2, _⟩ => SqT.of (s2.tup hbd1 hrl1 _ _ (s1 _ _ hwt))) ?_ ?_
    · rintro i x σ H2 H3 hi ⟨f', rs', ps', v7, v8, v9, v10, v11, v12, rfl, s2, hT2, hI2, hR2, hc1, hc2, hc3⟩ ⟨TT, x1, y1, rfl, hTT, rfl, hx1, hy1⟩
      have ex1 : V.int (i : Nat) = x1 := Option.some.inj hx1
      subst ex1
      obtain ⟨a, ha, rfl⟩ := ref_get hy1
      obtain ⟨wr, hwr, haw⟩ := paired_get hws ha
      have hwm := List.mem_of_getElem? hwr
      obtain ⟨we1, we2, we3, we4⟩ := pot.we wr hwm
      have t12 := s2.tup hbd1 hrl1
      have sT := Same.upd (o := .tup [V.int (i : Nat), V.ref a]) hTT
      have hTT1 : L2.upd H2 TT (.tup [V.int (i : Nat), V.ref a]) TT = some (.tup [V.int (i : Nat), V.ref a]) := upd_same
      generalize L2.upd H2 TT (.tup [V.int (i : Nat), V.ref a]) = H3 at *
      have s13 := s2.trans (Same2.of sT)
      have t13 := s13.tup hbd1 hrl1
      obtain ⟨kvs, hbd2, hl2, hlab2, hent2⟩ := id hT2
      obtain ⟨hrl2, hrp2, hrf2⟩ := id hR2
      have hbd3 := sT _ _ hbd2
      have hrl3 := sT _ _ hrl2
      have hq3 : H3 q = some (.ins CW dxw (wfs p bd)) := s13 _ _ (ne_of (s1 _ _ hq) hbd1 (by intro z; cases z)) (ne_of (s1 _ _ hq) hrl1 (by intro z; cases z)) (s1 _ _ hq)
      have hP3 := PlanAt.mono2 s13 hbd1 hrl1 (hP.mono s1)
      have again : ∀ H4, Same H3 H4 → ∀ v7 v8 v9 v10 v11 v12, ∃ (f' : Tab Str) (rs' : List Addr) (ps' : List (Str × Str)) (w7 w8 w9 w10 w11 w12 : Option V), ([some (.ref q), some (.str h), some (.str t), some (.ref rl), some (.int m), some (.int e), some (.ref pp), v7, v8, v9, v10, v11, v12] : L2.St) = [some (.ref q), some (.str h), some (.str t), some (.ref rl), some (.int m), some (.int e), some (.ref pp), w7, w8, w9, w10, w11, w12] ∧ Same2 bd rl H1 H4 ∧
        TabAt ks L b H4 bd f' ∧ InvG ks d L b f' ∧ RestAt H4 rl rs' ps' f' ∧ (rs'.length : Int) + phi ks f' ≤ rs.length + phi ks f ∧ phi ks f' ≤ phi ks f ∧ m ≤ 2 * (cntF ks f' : Int) := fun H4 s4 v7 v8 v9 v10 v11 v12 =>
        ⟨f', rs', ps', v7, v8, v9, v10, v11, v12, rfl, s13.trans (Same2.of s4), hT2.mono (fun b xs z => s4 _ _ (sT _ _ z)) (by rw [s4 _ _ hbd3, hbd2]), hI2, ⟨s4 _ _ hrl3, Paired.mapP hrp2 fun _ _ z => s4 _ _ (sT _ _ z), hrf2⟩, hc1, hc2, hc3⟩
      refine ⟨TT, _, rfl, SqT.of hTT1, rfl, _, _, rfl, _, _, rfl, a, _, rfl, SqT.of (t13 _ _ (s1 _ _ haw)), rfl, _, _, rfl, _, _, rfl, _, _, rfl, rfl, rfl, ?_⟩
      refine ⟨_, rfl, _, rfl, rfl, _, rfl, ?_⟩
      by_cases c1 : wr.1 = t
      case neg =>
        rw [decide_eq_false (by intro z; injection z with z; exact c1 z)]
        exact iteF (iteF (again H3 (Same.refl _) _ _ _ _ _ _))
      rw [decide_eq_true (by rw [c1])]
      refine iteT ⟨_, rfl, _, rfl, rfl, _, rfl, ?_⟩
      by_cases c2 : wr.2.1 = h
      case pos =>
        rw [decide_eq_true (by rw [c2])]
        exact iteF (again H3 (Same.refl _) _ _ _ _ _ _)
      rw [decide_eq_false (by intro z; injection z with z; exact c2 z)]
      refine iteT ?_
      obtain ⟨⟨dx3, hp3⟩, hdl3, hwt3, hws3⟩ := id hP3
      subst c1
      have hpp3 := t13 _ _ (s1 _ _ hpp)
      -- told
      refine ⟨_, rfl, _, rfl, _, _, rfl, rfl, ?_⟩
      refine ⟨_, rfl, _, rfl, q, CW, dxw, _, _, rfl, hq3, U.cl, U.nP, wfs_plan _ _, p, C, dx3, _, _, rfl, hp3, T.cl, T.nD, pfs_delays _ _, _, rfl, dl, _, rfl, get_DI hdl3 we2, _, _, rfl, rfl, ?_⟩
      have ph0 := (phi_bounds pot.b0 pot.b35 pot.Lb pot.k6 hI2.inv).1
      refine ⟨_, rfl, pp, xs, rfl, .inl (SqT.of hpp3), _, rfl, (by rw [List.length_append, List.length_singleton, sizeLine_eq]; omega), fun pn hpn => ⟨(by show 3 ≤ sizeLine; decide), fun tn htn => ?_⟩⟩
      have sN := Same.upd (o := .tup (xs ++ [V.int (i : Nat)])) hpn
      have sM := Same.upd (o := .tup [V.int (m + wr.2.2), V.int (e + d wr.2.1), V.ref pn]) htn
      have hpn4 := sM _ _ (upd_same (H := H3) (a := pn) (o := .tup (xs ++ [V.int (i : Nat)])))
      have htn4 : L2.upd (L2.upd H3 pn (.tup (xs ++ [V.int (i : Nat)]))) tn (.tup [V.int (m + wr.2.2), V.int (e + d wr.2.1), V.ref pn]) tn = some (.tup [V.int (m + wr.2.2), V.int (e + d wr.2.1), V.ref pn]) := upd_same
      have s34 := sN.trans sM
      generalize L2.upd (L2.upd H3 pn (.tup (xs ++ [V.int (i : Nat)]))) tn (.tup [V.int (m + wr.2.2), V.int (e + d wr.2.1), V.ref pn]) = H4 at *
      -- old
      refine ⟨_, rfl, q, CW, dxw, _, _, rfl, s34 _ _ hq3, U.cl, U.nB, wfs_best _ _, bd, rfl, .inr ⟨kvs, .inl (s34 _ _ hbd3)⟩, _, rfl, _, rfl, (by show 2 ≤ sizeLine; decide), fun k2 hk2 => ?_⟩
      have s45 := Same.upd (o := .tup [V.str h, V.str wr.2.1]) hk2
      have hk25 : L2.upd H4 k2 (.tup [V.str h, V.str wr.2.1]) k2 = some (.tup ((key2 h wr.2.1).map kV)) := upd_same
      generalize L2.upd H4 k2 (.tup [V.str h, V.str wr.2.1]) = H5 at *
      have s35 := s34.trans s45
      refine ⟨_, DGet.t (k := key2 h wr.2.1) (s35 _ _ hbd3) hk25, ?_⟩
      have hlo := hlab2 h wr.2.1
      refine better_run (K := K) (tn := tn) (m1 := m + wr.2.2) (e1 := e + d wr.2.1) (old := f' h wr.2.1) rfl (s45 _ _ htn4) rfl ?_ ?_
      · cases hv : valV kvs (key2 h wr.2.1) with
        | none =>
          rw [hv] at hlo
          cases hf' : f' h wr.2.1 with
          | none => rfl
          | some y => rw [hf'] at hlo; exact hlo.elim
        | some v =>
          rw [hv] at hlo
          cases hf' : f' h wr.2.1 with
          | none => rw [hf'] at hlo; exact hlo.elim
          | some y =>
            rw [hf'] at hlo
            obtain ⟨to, po, ys, rfl, hto2, _, _⟩ := hlo
            exact ⟨to, _, rfl, s35 _ _ (sT _ _ hto2)⟩
      · refine ite2 (fun hbet => ?_) (fun _ => again H5 s35 _ _ _ _ _ _)
        have hold := better_old hbet
        have m0' : 0 ≤ m + wr.2.2 := by omega
        have e0' : 0 ≤ e + d wr.2.1 := by have := pot.d0 wr.2.1; omega
        have hdL := pot.dL wr.2.1
        have hLt := pot.Lb _ htk
        have eL' : e + d wr.2.1 ≤ (m + wr.2.2) * b + L wr.2.1 := by
          rw [Int.add_mul]
          by_cases c3 : wr.2.2 = 0
          · rw [c3]
            by_cases c4 : wr.1 = ("out" : Str)
            · have ho := hto c4
              have hx1 : f ("out" : Str) ("out" : Str) = some (m, e) := by rw [← hx0, ho, c4]
              have hx2 := hI.diag ("out" : Str) pot.out
              rw [hx2] at hx1
              have := pot.dout
              have em : 0 = m := congrArg Prod.fst (Option.some.inj hx1)
              have ee : d ("out" : Str) = e := congrArg Prod.snd (Option.some.inj hx1)
              rw [← em]
              omega
            · have := pot.wz wr hwm c3 c4
              omega
          · have h5 : b ≤ wr.2.2 * b := by
              have : 1 * b ≤ wr.2.2 * b := Int.mul_le_mul_of_nonneg_right (by omega) pot.b0
              omega
            omega
        have old' : (f' h wr.2.1 = none ∧ m + wr.2.2 ≤ 2 * (cntF ks f' : Int) + 2) ∨ ∃ m' e', f' h wr.2.1 = some (m', e') ∧ (m + wr.2.2 < m' ∨ (m + wr.2.2 = m' ∧ e + d wr.2.1 > e')) := by
          rcases hold with z | z
          · exact .inl ⟨z, by omega⟩
          · exact .inr z
        obtain ⟨I', ph'⟩ := step pot.b0 pot.b35 pot.Lb pot.k6 hI2.inv hhk we2 m0' e0' eL' old'
        have ph0' := (phi_bounds pot.b0 pot.b35 pot.Lb pot.k6 I').1
        have cm := cnt_mono (ks := ks) (f := f') (h := h) (t := wr.2.1) (x := (m + wr.2.2, e + d wr.2.1))
        -- self.best[here, goal] = told
        refine ⟨_, rfl, _, rfl, q, CW, dxw, _, _, rfl, s35 _ _ hq3, U.cl, U.nB, wfs_best _ _, _, rfl, _, rfl, (by show 2 ≤ sizeLine; decide), fun k3 hk3 => ?_⟩
        have s56 := Same.upd (o := .tup [V.str h, V.str wr.2.1]) hk3
        have hk36 : L2.upd H5 k3 (.tup [V.str h, V.str wr.2.1]) k3 = some (.tup ((key2 h wr.2.1).map kV)) := upd_same
        generalize L2.upd H5 k3 (.tup [V.str h, V.str wr.2.1]) = H6 at *
        have s36 := s35.trans s56
        have hbd6 := s36 _ _ hbd3
        have hrl6 := s36 _ _ hrl3
        refine ⟨bd, _, rfl, DPut.t (k := key2 h wr.2.1) hbd6 hk36 (by rw [sizeLine_eq]; omega), ?_⟩
        -- rest.append((here, goal))
        refine ⟨_, rfl, .inl ⟨rfl, _, SqL.of (by rw [upd_ne nbr.symm]; exact hrl6)⟩, _, rfl, _, rfl, (by show 2 ≤ sizeLine; decide), fun r1 hr1 => ?_⟩
        have nr1b : r1 ≠ bd := fun z => by rw [z, upd_same] at hr1; cases hr1
        have hr16 : H6 r1 = none := by rw [upd_ne nr1b] at hr1; exact hr1
        have nr1l : r1 ≠ rl := (ne_of_none hrl6 hr16).symm
        refine ⟨rl, _, _, rfl, rfl, (by rw [upd_ne nr1l.symm, upd_ne nbr.symm]; exact hrl6), (by rw [List.length_map, sizeLine_eq]; omega), ?_⟩
        have stays : ∀ c o, c ≠ bd → c ≠ rl → H6 c = some o → L2.upd (L2.upd (L2.upd H6 bd (.dT (putK kvs (key2 h wr.2.1) (.ref tn)))) r1 (.tup [V.str h, V.str wr.2.1])) rl (.lst (rs'.map V.ref ++ [V.ref r1])) c = some o := fun c o h1 h2 z => by
          rw [upd_ne h2, upd_ne (ne_of_none z hr16), upd_ne h1]
          exact z
        have tstays : ∀ c ys, H6 c = some (.tup ys) → L2.upd (L2.upd (L2.upd H6 bd (.dT (putK kvs (key2 h wr.2.1) (.ref tn)))) r1 (.tup [V.str h, V.str wr.2.1])) rl (.lst (rs'.map V.ref ++ [V.ref r1])) c = some (.tup ys) := fun c ys z =>
          stays c _ (ne_of z hbd6 (by intro z; cases z)) (ne_of z hrl6 (by intro z; cases z)) z
        have hr17 : L2.upd (L2.upd (L2.upd H6 bd (.dT (putK kvs (key2 h wr.2.1) (.ref tn)))) r1 (.tup [V.str h, V.str wr.2.1])) rl (.lst (rs'.map V.ref ++ [V.ref r1])) r1 = some (.tup (ptup (h, wr.2.1))) := by rw [upd_ne nr1l]; exact upd_same
        have hbd7 : L2.upd (L2.upd (L2.upd H6 bd (.dT (putK kvs (key2 h wr.2.1) (.ref tn)))) r1 (.tup [V.str h, V.str wr.2.1])) rl (.lst (rs'.map V.ref ++ [V.ref r1])) bd = some (.dT (putK kvs (key2 h wr.2.1) (.ref tn))) := by rw [upd_ne nbr, upd_ne nr1b.symm]; exact upd_same
        have hrl7 : L2.upd (L2.upd (L2.upd H6 bd (.dT (putK kvs (key2 h wr.2.1) (.ref tn)))) r1 (.tup [V.str h, V.str wr.2.1])) rl (.lst (rs'.map V.ref ++ [V.ref r1])) rl = some (.lst ((rs' ++ [r1]).map V.ref)) := by rw [upd_same, List.map_append]; rfl
        generalize L2.upd (L2.upd (L2.upd H6 bd (.dT (putK kvs (key2 h wr.2.1) (.ref tn)))) r1 (.tup [V.str h, V.str wr.2.1])) rl (.lst (rs'.map V.ref ++ [V.ref r1])) = H7 at *
        have t27 : ∀ c ys, H2 c = some (.tup ys) → H7 c = some (.tup ys) := fun c ys z => tstays c ys (s36 _ _ (sT _ _ z))
        refine ⟨setT f' h wr.2.1 (m + wr.2.2, e + d wr.2.1), rs' ++ [r1], ps' ++ [(h, wr.2.1)], _, _, _, _, _, _, rfl, s13.trans fun c o h1 h2 z => stays c o h1 h2 (s36 _ _ z), ?_, ⟨I', fun k hk => ?_⟩, ⟨hrl7, ?_, ?_⟩, ?_, ?_, ?_⟩
        · refine TabAt.put hbd2 hl2 hlab2 hent2 ph' t27 hbd7 ⟨tn, pn, _, rfl, tstays _ _ (s56 _ _ (s45 _ _ htn4)), tstays _ _ (s56 _ _ (s45 _ _ hpn4)), ?_⟩ ⟨m0', eL', hhk, we2⟩
          rw [List.length_append, List.length_singleton]
          omega
        · rw [setT_ne (fun z => c2 (z.2.symm.trans z.1))]
          exact hI2.diag k hk
        · exact Paired.snoc (Paired.mapP hrp2 fun _ _ z => t27 _ _ z) hr17
        · intro e' he'
          rcases List.mem_append.mp he' with z | z
          · by_cases y : e'.1 = h ∧ e'.2 = wr.2.1
            · rw [show setT f' h wr.2.1 (m + wr.2.2, e + d wr.2.1) e'.1 e'.2 = some (m + wr.2.2, e + d wr.2.1) from if_pos y]
              rfl
            · rw [setT_ne y]
              exact hrf2 e' z
          · rw [List.mem_singleton] at z
            rw [z]
            show (setT f' h wr.2.1 (m + wr.2.2, e + d wr.2.1) h wr.2.1).isSome = true
            rw [setT_same]
            rfl
        · rw [List.length_append, List.length_singleton]
          omega
        · omega
        · omega
    · rintro σ H2 ⟨f', rs', ps', v7, v8, v9, v10, v11, v12, rfl, s2, hT2, hI2, hR2, hc1, hc2, hc3⟩
      exact k H2 f' rs' ps' (fun b o h1 h2 z => s2 _ _ h1 h2 (s1 _ _ z)) hT2 hI2 hR2 hc1 hc2
end
end Bw

/-! #### D13 -/
set_option Elab.async false
set_option linter.all false
set_option maxRecDepth 100000
set_option maxHeartbeats 4000000
namespace Bw
open PySem PySem.Spec PyProof.Rows L2
theorem paired_last {α β : Type} {F : α → β → Prop} : ∀ {l : List α} {m : List β} {a : α}, Paired F (l ++ [a]) m → ∃ m0 b, m = m0 ++ [b] ∧ Paired F l m0 ∧ F a b
  | [], _, _, .cons h .nil => ⟨[], _, rfl, .nil, h⟩
  | x :: l, _, _, .cons h t => by
    obtain ⟨m0, b, e, h1, h2⟩ := paired_last t
    exact ⟨_ :: m0, b, by rw [e]; rfl, .cons h h1, h2⟩
section
variable {P : Program} {w : World} {K : PySem.W.Frag} {mg : Str → Option Value} {base : Heap}
def spWInit (C CW : Addr) : Sp := fun vs H Q _ => ∃ (q dxw p dl wt : Addr) (H0 : Hp) (ks : List Str) (d L : Str → Int) (as : List Addr) (ws : List WireS) (b : Int), vs = [.ref q, .ref p] ∧ H q = some (.ins CW dxw []) ∧ Same H0 H ∧ H0 q = none ∧ PlanAt C H0 p dl wt ks d as ws ∧ Pot ks d L ws b ∧ ks.Nodup ∧
  ∀ H' bd f, Same H0 H' → WayAt CW H' q p bd → TabAt ks L b H' bd f → InvG ks d L b f → Q .non H'
abbrev nWInit : List Str := ["self", "plan", "name", "delay", "rest", "here", "there"]
theorem scWInit : FnScope nWInit ["self", "plan"] (defScope sWInit) := ⟨rfl, rfl, rfl, by decide +kernel, rfl, by decide +kernel, by decide +kernel⟩
theorem keys_pairs {ks : List Str} {L : Str → Int} {b : Int} {H : Hp} {F : Int} : ∀ {kvs : List (List Key × V)} {bs : List Addr}, IsKeys H kvs bs → (∀ kv ∈ kvs, Ent ks L b H F kv) → ∃ ps : List (Str × Str), Paired (fun r (e : Str × Str) => H r = some (.tup (ptup e))) bs ps ∧ ∀ e ∈ ps, ∃ kv ∈ kvs, kv.1 = key2 e.1 e.2
  | _, _, .nil, _ => ⟨[], .nil, fun _ h => nomatch h⟩
  | kv :: kvs, r :: bs, .cons h t, he => by
    obtain ⟨ps, h1, h2⟩ := keys_pairs t fun kv hm => he kv (List.mem_cons_of_mem _ hm)
    obtain ⟨a, c, x, e, _⟩ := he kv List.mem_cons_self
    refine ⟨(a, c) :: ps, .cons ?_ h1, fun e' he' => ?_⟩
    · have h' : H r = some (.tup (kv.1.map kV)) := h
      rw [e] at h'
      exact h'
    · rcases List.mem_cons.mp he' with z | z
      · subst z
        exact ⟨kv, List.mem_cons_self, e⟩
      · obtain ⟨kv', hm, e2⟩ := h2 e' z
        exact ⟨kv', List.mem_cons_of_mem _ hm, e2⟩
/-- the while of Ways.__init__ -/
def WLoop (C CW q p bd rl : Addr) (H0 : Hp) (ks : List Str) (d L : Str → Int) (b : Int) (m : Nat) (σ : L2.St) (H : Hp) : Prop := ∃ (f : Tab Str) (rs : List Addr) (ps : List (Str × Str)) (v2 v3 v5 v6 : Option V), σ = [some (.ref q), some (.ref p), v2, v3, some (.ref rl), v5, v6] ∧ Same H0 H ∧
  WayAt CW H q p bd ∧ TabAt ks L b H bd f ∧ InvG ks d L b f ∧ RestAt H rl rs ps f ∧ (rs.length : Int) + phi ks f ≤ 6717174 ∧ m = (2 * phi ks f + rs.length).toNat
theorem ok_winit {f fe C CW : Addr} {fd fde : FuncData} (F : Fun K "__init__" "Ways.__init__" sWInit f fd) (B : Bt mg) (T : PTxt K C) (U : WTxt K CW) (hO : ∃ t, mg "OUT" = some (.str "out" t))
    (FE : Fun K "extend" "Ways.extend" sExtend fe fde) (bE : Binds K fde ["self", "here", "there", "rest"] []) (mE : Meth K CW "extend" fe) : FnOk P w K mg base CX0 2 f fd ["self", "plan"] (spWInit C CW) := by
  have GE : FnOk P w K mg base CX0 1 fe fde ["self", "here", "there", "rest"] (spExtend C CW) := ok_extend FE B T U
  obtain ⟨tO, hO⟩ := hO
  refine F.ok scWInit (fun vs H Q E h => ?_) (fun cdv A outer s H vs Q E hr h => ?_)
  · obtain ⟨q, dxw, p, dl, wt, H0, ks, d, L, as, ws, b, rfl, _⟩ := h
    rfl
  · obtain ⟨q, dxw, p, dl, wt, H0, ks, d, L, as, ws, b, rfl, hq, s0, q0, hP0, pot, hnd, k⟩ := h
    have hu := hu_of hr
    have hu1 := Nat.lt_of_succ_lt hu
    refine ⟨_, pss_cons (ps_fld (pv 0) (pv 1) rfl) (pss_cons (ps_fld (pv 0) pe_dnewT rfl)
      (pss_cons (ps_lock (ps_for PassesOwn.never rfl (pi_items (pe_fld (pv 1) rfl)) (pg_tup rfl (pgs_cons (pg_name (i := 2) scWInit.nd rfl (Or.inl rfl)) (pgs_cons (pg_name (i := 3) scWInit.nd rfl (Or.inl rfl)) pgs_nil)))
        (pss_one (ps_dput hu (pe_fld (pv 0) rfl) (pe_tup (pa_cons (pv 2) (pa_cons (pv 2) pa_nil))) (pe_tup (pa_cons pe_int (pa_cons (pv 3) (pa_cons (pe_tup pa_nil) pa_nil)))) rfl))))
      (pss_cons (ps_set (i := 4) scWInit.nd rfl (Or.inl rfl) (pe_callTy (call_list_dT rfl) (by rfl) B.list (by decide +kernel) (pa_cons (pe_fld (pv 0) rfl) pa_nil)))
      (pss_one (ps_while PassesOwn.never (pt_cmpR (op_neNilL hu1) (pv 4) (pe_lst pa_nil) (nomark _))
        (pss_cons (ps_asg (pe_bm0 PySem.F.plainAttrs_list PySem.F.slot_list_pop PySem.F.type_list_pop mt_pop (pv 4)) (pg_tup rfl (pgs_cons (pg_name (i := 5) scWInit.nd rfl (Or.inl rfl)) (pgs_cons (pg_name (i := 6) scWInit.nd rfl (Or.inl rfl)) pgs_nil))))
        (pss_one (ps_if (pw_or (pt_cmpR op_ne (pv 6) (pe_glob (v := .str "out") (by rfl) hO ⟨_, rfl⟩) (nomark _)) (pw_or1 (pt_cmpR op_eq (pv 5) (pv 6) (nomark _)))).pt
          (pss_one (ps_expr (pe_meth (pv 0) U.cl mE GE hr bE .nil pass0 (pa_cons (pv 5) (pa_cons (pv 6) (pa_cons (pv 4) pa_nil)))))) pss_nil)))))))), ?_⟩
    have hP := hP0.mono s0
    obtain ⟨⟨dx, hp0⟩, hdl0, hwt0, hws0⟩ := id hP0
    have npq : p ≠ q := ne_of_none hp0 q0
    have ndq : dl ≠ q := ne_of_none hdl0 q0
    refine ⟨_, rfl, _, rfl, q, CW, dxw, [], rfl, hq, U.cl, U.nP, (by show 0 < 1000; decide), ?_⟩
    have s01 : Same H0 (L2.upd H q (.ins CW dxw (putF "plan" (.ref p) []))) := s0.put q0
    have hq1 : L2.upd H q (.ins CW dxw (putF "plan" (.ref p) [])) q = some (.ins CW dxw (putF "plan" (.ref p) [])) := upd_same
    generalize L2.upd H q (.ins CW dxw (putF "plan" (.ref p) [])) = H1 at *
    intro bd hbd
    have s02 := s01.trans (Same.upd (o := .dT []) hbd)
    have bd0 : H0 bd = none := s01.free hbd
    have nqb : q ≠ bd := ne_of_none hq1 hbd
    refine ⟨_, rfl, q, CW, dxw, _, rfl, (by rw [upd_ne nqb]; exact hq1), U.cl, U.nB, (by show 1 < 1000; decide), ?_⟩
    have s03 : Same H0 (L2.upd (L2.upd H1 bd (.dT [])) q (.ins CW dxw (wfs p bd))) := s02.put q0
    have hq3 : L2.upd (L2.upd H1 bd (.dT [])) q (.ins CW dxw (wfs p bd)) q = some (.ins CW dxw (wfs p bd)) := upd_same
    have hbd3 : L2.upd (L2.upd H1 bd (.dT [])) q (.ins CW dxw (wfs p bd)) bd = some (.dT []) := by rw [upd_ne nqb.symm]; exact upd_same
    show tLock _ _ _ (L2.upd (L2.upd H1 bd (.dT [])) q (.ins CW dxw (wfs p bd)))
    generalize L2.upd (L2.upd H1 bd (.dT [])) q (.ins CW dxw (wfs p bd)) = H3 at *
    have hP3 := hP0.mono s03
    obtain ⟨⟨dx3, hp3⟩, hdl3, hwt3, hws3⟩ := id hP3
    have ndb : dl ≠ bd := ne_of_none hdl0 bd0
    refine ⟨dl, _, hdl3, True.intro, fun od => ?_⟩
    have hdl4 : L2.upd H3 dl (.frz od (.dK (DI ks d))) dl = some (.frz od (.dK (DI ks d))) := upd_same
    have ne4 : ∀ c, c ≠ dl → L2.upd H3 dl (.frz od (.dK (DI ks d))) c = H3 c := fun c hc => upd_ne hc
    generalize L2.upd H3 dl (.frz od (.dK (DI ks d))) = H4 at *
    have npd : p ≠ dl := ne_of hp3 hdl3 (by intro z; cases z)
    have hp4 : H4 p = some (.ins C dx3 (pfs dl wt)) := by rw [ne4 p npd]; exact hp3
    have hq4 : H4 q = some (.ins CW dxw (wfs p bd)) := by rw [ne4 q (ne_of hq3 hdl3 (by intro z; cases z))]; exact hq3
    have hbd4 : H4 bd = some (.dT []) := by rw [ne4 bd ndb.symm]; exact hbd3
    have nqb' : q ≠ bd := ne_of hq4 hbd4 (by intro z; cases z)
    have none4 : ∀ h t, valV ([] : List (List Key × V)) (key2 h t) = none := fun _ _ => rfl
    have I0 : InvF ks L b (fun _ _ => none) := ⟨fun _ _ _ _ z => by cases z⟩
    have ph00 := phi_bounds pot.b0 pot.b35 pot.Lb pot.k6 I0
    have T0 : TabAt ks L b H4 bd (fun _ _ => none) := ⟨[], hbd4, by show (0 : Int) + _ ≤ _; omega, fun h t => True.intro, fun _ h => nomatch h⟩
    refine ⟨_, rfl, p, C, dx3, _, _, rfl, hp4, T.cl, T.nD, pfs_delays _ _, dl, od, DI ks d, rfl, hdl4, for_it walk_items (fun i σ H' => ∃ (f : Tab Str) (v2 v3 : Option V), σ = [some (.ref q), some (.ref p), v2, v3, none, none, none] ∧ SameB bd H4 H' ∧ TabAt ks L b H' bd f ∧ InvF ks L b f ∧
        (∀ k ∈ ks.take i, f k k = some (0, d k)) ∧ ∀ h t, (f h t).isSome = true → h = t ∧ h ∈ ks.take i)
      ⟨fun _ _ => none, none, none, rfl, fun _ _ _ z => z, T0, I0, (by rw [List.take_zero]; exact fun _ h => nomatch h), fun _ _ h => nomatch h⟩ (fun i σ H' _ ⟨_, _, _, _, sb, _⟩ => sb _ _ ndb hdl4) ?_ ?_⟩
    · rintro i x σ H5 H6 hi ⟨f, v2, v3, rfl, sb, hT5, hI5, hp1, hp2⟩ ⟨TT, x1, y1, rfl, hTT, rfl, hx1, hy1⟩
      rw [DI_length] at hi
      have hki : ks[i]? = some ks[i] := List.getElem?_eq_getElem hi
      have hdi : (DI ks d)[i]? = some (Sum.inr ks[i], V.int (d ks[i])) := by unfold DI; rw [List.getElem?_map, hki]; rfl
      have hx1 : ((DI ks d)[i]?).map (fun kv => kV kv.1) = some x1 := hx1
      have hy1 : ((DI ks d)[i]?).map Prod.snd = some y1 := hy1
      have ex1 : V.str ks[i] = x1 := by rw [hdi] at hx1; exact Option.some.inj hx1
      have ey1 : V.int (d ks[i]) = y1 := by rw [hdi] at hy1; exact Option.some.inj hy1
      subst ex1 ey1
      have hkm : ks[i] ∈ ks := List.getElem_mem hi
      have etk : ks.take (i + 1) = ks.take i ++ [ks[i]] := by rw [List.take_succ, hki]; rfl
      have hnot : ks[i] ∉ ks.take i := by
        have h1 : (ks.take i ++ [ks[i]]).Nodup := by rw [← etk]; exact hnd.sublist (List.take_sublist _ _)
        intro z
        exact (List.nodup_append.mp h1).2.2 _ z _ List.mem_cons_self rfl
      generalize ks[i] = kk at *
      have fno : f kk kk = none := by
        cases e : f kk kk with
        | none => rfl
        | some y => exact absurd (hp2 kk kk (by rw [e]; rfl)).2 hnot
      have hdk := pot.d0 kk
      have hdL := pot.dL kk
      obtain ⟨I', ph'⟩ := step (m := 0) (e := d kk) pot.b0 pot.b35 pot.Lb pot.k6 hI5 hkm hkm (by omega) hdk (by omega) (.inl ⟨fno, by omega⟩)
      have ph0' := (phi_bounds pot.b0 pot.b35 pot.Lb pot.k6 I').1
      have ph5 := (phi_bounds pot.b0 pot.b35 pot.Lb pot.k6 hI5)
      obtain ⟨kvs, hbd5, hl5, hlab5, hent5⟩ := id hT5
      have sT := Same.upd (o := .tup [V.str kk, V.int (d kk)]) hTT
      have hTT1 : L2.upd H5 TT (.tup [V.str kk, V.int (d kk)]) TT = some (.tup [V.str kk, V.int (d kk)]) := upd_same
      generalize L2.upd H5 TT (.tup [V.str kk, V.int (d kk)]) = H6 at *
      refine ⟨TT, _, rfl, SqT.of hTT1, rfl, _, _, rfl, _, _, rfl, rfl, ?_⟩
      refine ⟨_, rfl, Nat.zero_le _, fun pe hpe => ⟨(by show 3 ≤ sizeLine; decide), fun tv htv => ?_⟩⟩
      have sN := Same.upd (o := .tup []) hpe
      have sM := Same.upd (o := .tup [V.int 0, V.int (d kk), V.ref pe]) htv
      have hpe7 := sM _ _ (upd_same (H := H6) (a := pe) (o := .tup []))
      have htv7 : L2.upd (L2.upd H6 pe (.tup [])) tv (.tup [V.int 0, V.int (d kk), V.ref pe]) tv = some (.tup [V.int 0, V.int (d kk), V.ref pe]) := upd_same
      have s57 := (sT.trans sN).trans sM
      generalize L2.upd (L2.upd H6 pe (.tup [])) tv (.tup [V.int 0, V.int (d kk), V.ref pe]) = H7 at *
      have hq7 := s57 _ _ (sb _ _ nqb' hq4)
      refine ⟨_, rfl, q, CW, dxw, _, _, rfl, hq7, U.cl, U.nB, wfs_best _ _, _, rfl, _, rfl, (by show 2 ≤ sizeLine; decide), fun kx hkx => ?_⟩
      have sX := Same.upd (o := .tup [V.str kk, V.str kk]) hkx
      have hkx8 : L2.upd H7 kx (.tup [V.str kk, V.str kk]) kx = some (.tup ((key2 kk kk).map kV)) := upd_same
      generalize L2.upd H7 kx (.tup [V.str kk, V.str kk]) = H8 at *
      have s58 := s57.trans sX
      have hbd8 := s58 _ _ hbd5
      refine ⟨bd, _, rfl, DPut.t (k := key2 kk kk) hbd8 hkx8 (by rw [sizeLine_eq]; omega), ?_⟩
      have t58 : ∀ c ys, H5 c = some (.tup ys) → L2.upd H8 bd (.dT (putK kvs (key2 kk kk) (.ref tv))) c = some (.tup ys) := fun c ys z => by
        rw [upd_ne (ne_of z hbd5 (by intro q; cases q))]
        exact s58 _ _ z
      have tt8 : ∀ c ys, H7 c = some (.tup ys) → L2.upd H8 bd (.dT (putK kvs (key2 kk kk) (.ref tv))) c = some (.tup ys) := fun c ys z => by
        rw [upd_ne (ne_of z (s57 _ _ hbd5) (by intro q; cases q))]
        exact sX _ _ z
      refine ⟨setT f kk kk (0, d kk), _, _, rfl, fun c o hc z => by rw [upd_ne hc]; exact s58 _ _ (sb c o hc z), ?_, I', ?_, ?_⟩
      · refine TabAt.put hbd5 hl5 hlab5 hent5 ph' t58 upd_same ⟨tv, pe, [], rfl, tt8 _ _ htv7, tt8 _ _ hpe7, ?_⟩ ⟨Int.le_refl _, by show d kk ≤ 0 * b + L kk; omega, hkm, hkm⟩
        show (0 : Int) + _ ≤ _
        omega
      · intro k2 hk2
        rw [etk] at hk2
        by_cases z : k2 = kk
        · subst z
          exact setT_same _ _ _ _
        · rcases List.mem_append.mp hk2 with y | y
          · rw [setT_ne (fun w => z w.1)]
            exact hp1 k2 y
          · exact absurd (List.mem_singleton.mp y) z
      · intro h t hh
        by_cases z : h = kk ∧ t = kk
        · exact ⟨z.1.trans z.2.symm, by rw [etk, z.1]; exact List.mem_append_right _ List.mem_cons_self⟩
        · rw [setT_ne z] at hh
          obtain ⟨y1, y2⟩ := hp2 h t hh
          exact ⟨y1, by rw [etk]; exact List.mem_append_left _ y2⟩
    · rintro σ H5 ⟨f, v2, v3, rfl, sb, hT5, hI5, hp1, hp2⟩
      rw [DI_length, List.take_length] at hp1 hp2
      have hdl5 := sb _ _ ndb hdl4
      refine ⟨hdl5, ?_⟩
      have s06 : Same H0 (L2.upd H5 dl (.dK (DI ks d))) := fun c o z => by
        by_cases hc : c = dl
        · subst hc
          rw [upd_same, ← z, hdl0]
        · rw [upd_ne hc]
          exact sb _ _ (ne_of_none z bd0) (by rw [ne4 c hc]; exact s03 _ _ z)
      have hq6 : L2.upd H5 dl (.dK (DI ks d)) q = some (.ins CW dxw (wfs p bd)) := by
        rw [upd_ne (fun z => ndq z.symm)]
        exact sb _ _ nqb' hq4
      have hT6 : TabAt ks L b (L2.upd H5 dl (.dK (DI ks d))) bd f := hT5.mono (fun c ys z => by rw [upd_ne (ne_of z hdl5 (by intro q; cases q))]; exact z) (upd_ne ndb.symm)
      show tSeq _ _ _ _ (L2.upd H5 dl (.dK (DI ks d)))
      generalize L2.upd H5 dl (.dK (DI ks d)) = H6 at *
      obtain ⟨kvs, hbd6, hl6, hlab6, hent6⟩ := id hT6
      refine ⟨_, rfl, q, CW, dxw, _, _, rfl, hq6, U.cl, U.nB, wfs_best _ _, bd, kvs, rfl, .inl hbd6, fun rl bs hrl hbs => ?_⟩
      have rl0 : H0 rl = none := s06.free hrl
      have nbr : bd ≠ rl := ne_of_none hbd6 hrl
      have s67 := Same.upd (o := .lst (bs.map V.ref)) hrl
      have hrl7 : L2.upd H6 rl (.lst (bs.map V.ref)) rl = some (.lst (bs.map V.ref)) := upd_same
      obtain ⟨ps, hps1, hps2⟩ := keys_pairs hbs hent6
      have hbl : bs.length = kvs.length := (Paired.length hbs).symm
      generalize L2.upd H6 rl (.lst (bs.map V.ref)) = H7 at *
      have s07 := s06.trans s67
      refine ⟨WLoop C CW q p bd rl H0 ks d L b, ⟨_, f, bs, ps, _, _, _, _, rfl, s07, ⟨dxw, s67 _ _ hq6⟩, hT6.mono (fun c ys z => s67 _ _ z) (by rw [s67 _ _ hbd6, hbd6]), ⟨hI5, hp1⟩, ⟨hrl7, Paired.mapP hps1 fun _ _ z => s67 _ _ z, fun e he => ?_⟩, (by rw [hbl]; exact hl6), rfl⟩, ?_⟩
      · obtain ⟨kv, hm, e1⟩ := hps2 e he
        have hlo := hlab6 e.1 e.2
        cases hv : valV kvs (key2 e.1 e.2) with
        | none =>
          have h1 := valV_any (key2 e.1 e.2) kvs
          rw [hv] at h1
          have h2 : (kvs.any fun kv => decide (kv.1 = key2 e.1 e.2)) = true := List.any_eq_true.mpr ⟨kv, hm, decide_eq_true e1⟩
          rw [h2] at h1
          cases h1
        | some v =>
          rw [hv] at hlo
          cases hf' : f e.1 e.2 with
          | none => rw [hf'] at hlo; exact hlo.elim
          | some y => rfl
      · rintro m σ H8 ⟨f8, rs, ps8, v2, v3, v5, v6, rfl, s8, ⟨dx8, hq8⟩, hT8, hI8, hR8, hb8, rfl⟩
        obtain ⟨hrl8, hrp8, hrf8⟩ := id hR8
        obtain ⟨kvs8, hbd8, _⟩ := id hT8
        have ph8 := (phi_bounds pot.b0 pot.b35 pot.Lb pot.k6 hI8.inv).1
        refine ⟨_, rfl, Nat.zero_le _, fun z hz => ⟨rl, z, rs.map V.ref, rfl, rfl, SqL.of ((Same.upd hz) _ _ hrl8), SqL.of upd_same, _, rfl, ?_⟩⟩
        have sz := Same.upd (o := .lst []) hz
        have s09 := s8.trans sz
        have hq9 := sz _ _ hq8
        have hbd9 := sz _ _ hbd8
        have hrl9 := sz _ _ hrl8
        have hT9 : TabAt ks L b (L2.upd H8 z (.lst [])) bd f8 := hT8.mono (fun c ys w => sz _ _ w) (by rw [hbd9, hbd8])
        have hrp9 : Paired (fun r (e : Str × Str) => L2.upd H8 z (.lst []) r = some (.tup (ptup e))) rs ps8 := Paired.mapP hrp8 fun _ _ w => sz _ _ w
        generalize L2.upd H8 z (.lst []) = H9 at *
        by_cases hne : rs = []
        · subst hne
          refine iteF ?_
          exact k H9 bd f8 s09 ⟨dx8, hq9⟩ hT9 hI8
        · obtain ⟨rs0, r, rfl⟩ : ∃ rs0 r, rs = rs0 ++ [r] := ⟨rs.dropLast, rs.getLast hne, (List.dropLast_concat_getLast hne).symm⟩
          obtain ⟨ps0, e, rfl, hrp0, hre⟩ := paired_last hrp9
          rw [show (!((rs0 ++ [r]).map V.ref).isEmpty) = true from by simp]
          refine iteT ⟨fun σ' H' => ∃ m', m' < (2 * phi ks f8 + ((rs0 ++ [r]).length : Nat)).toNat ∧ WLoop C CW q p bd rl H0 ks d L b m' σ' H', fun _ _ h => h, ?_⟩
          have elast : ((rs0 ++ [r]).map V.ref)[((rs0 ++ [r]).map V.ref).length - 1]? = some (V.ref r) := by simp
          have edrop : ((rs0 ++ [r]).map V.ref).dropLast = rs0.map V.ref := by simp
          refine ⟨_, rfl, .inl ⟨rfl, _, SqL.of hrl9⟩, rl, _, _, rfl, rfl, hrl9, elast, ?_⟩
          rw [edrop]
          have ne_r : r ≠ rl := ne_of hre hrl9 (by intro q; cases q)
          have hrl10 : L2.upd H9 rl (.lst (rs0.map V.ref)) rl = some (.lst (rs0.map V.ref)) := upd_same
          have ne10 : ∀ c o, c ≠ rl → H9 c = some o → L2.upd H9 rl (.lst (rs0.map V.ref)) c = some o := fun c o hc w => by rw [upd_ne hc]; exact w
          have s010 : Same H0 (L2.upd H9 rl (.lst (rs0.map V.ref))) := s09.put rl0
          generalize L2.upd H9 rl (.lst (rs0.map V.ref)) = H10 at *
          have t10 : ∀ c ys, H9 c = some (.tup ys) → H10 c = some (.tup ys) := fun c ys w => ne10 c _ (ne_of w hrl9 (by intro q; cases q)) w
          have hbd10 := ne10 _ _ nbr hbd9
          have hT10 : TabAt ks L b H10 bd f8 := hT9.mono t10 (by rw [hbd10, hbd9])
          have hq10 := ne10 _ _ (ne_of hq9 hrl9 (by intro q; cases q)) hq9
          have hR10 : RestAt H10 rl rs0 ps0 f8 := ⟨hrl10, Paired.mapP hrp0 fun _ _ w => t10 _ _ w, fun e' he' => hrf8 e' (List.mem_append_left _ he')⟩
          have hrlen : ((rs0 ++ [r]).length : Int) = (rs0.length : Int) + 1 := by rw [List.length_append, List.length_singleton]; omega
          refine ⟨r, _, rfl, SqT.of (t10 _ _ hre), rfl, _, _, rfl, _, _, rfl, rfl, ?_⟩
          have ext : (e.2 = ("out" : Str) → e.1 = ("out" : Str)) → tDrop (tMeth CW "extend" (spExtend C CW) [] E0 (tVar 0) (tCons (tVar 5) (tCons (tVar 6) (tCons (tVar 4) tNil)))) { nx := fun σ' H' => ∃ m', m' < (2 * phi ks f8 + ((rs0 ++ [r]).length : Nat)).toNat ∧ WLoop C CW q p bd rl H0 ks d L b m' σ' H', rt := Q }
              [some (.ref q), some (.ref p), v2, v3, some (.ref rl), some (.str e.1), some (.str e.2)] H10 := fun hto => by
            refine ⟨_, rfl, q, dx8, _, rfl, hq10, wfs_no _ _ (by decide +kernel) (by decide +kernel), _, rfl, _, rfl, _, rfl, q, p, dl, wt, bd, rl, ks, d, L, as, ws, b, f8, rs0, ps0, e.1, e.2, rfl, hP0.mono s010, ⟨dx8, hq10⟩, hT10, hI8, pot, hR10, by omega, hrf8 e (List.mem_append_right _ List.mem_cons_self), hto, ?_⟩
            intro H11 f11 rs11 ps11 s11 hT11 hI11 hR11 hc11 hc12
            have ph11 := (phi_bounds pot.b0 pot.b35 pot.Lb pot.k6 hI11.inv).1
            refine ⟨_, ?_, f11, rs11, ps11, _, _, _, _, rfl, fun c o w => s11 c o (ne_of_none w bd0) (ne_of_none w rl0) (s010 c o w), ⟨dx8, s11 _ _ (ne_of hq10 hbd10 (by intro q; cases q)) (ne_of hq10 hrl10 (by intro q; cases q)) hq10⟩, hT11, hI11, hR11, by omega, rfl⟩
            omega
          refine ⟨_, rfl, rfl, _, rfl, ?_⟩
          by_cases ht : e.2 = ("out" : Str)
          · rw [decide_eq_true (by rw [ht])]
            refine iteF ⟨_, rfl, _, rfl, rfl, _, rfl, ?_⟩
            by_cases hh : e.1 = e.2
            · rw [decide_eq_true (by rw [hh])]
              exact iteT (ext fun _ => by rw [hh, ht])
            · rw [decide_eq_false (by intro q; injection q with q; exact hh q)]
              refine iteF ⟨_, ?_, f8, rs0, ps0, _, _, _, _, rfl, s010, ⟨dx8, hq10⟩, hT10, hI8, hR10, by omega, rfl⟩
              omega
          · rw [decide_eq_false (by intro q; injection q with q; exact ht q)]
            exact iteT (iteT (ext fun z => absurd z ht))
end
end Bw

/-! #### D14 -/
set_option Elab.async false
set_option linter.all false
set_option maxRecDepth 100000
set_option maxHeartbeats 4000000
namespace Bw
open PySem PySem.Spec PyProof.Rows L2
section
variable {P : Program} {w : World} {K : PySem.W.Frag} {mg : Str → Option Value} {base : Heap}
/-- a limit that no zeros break -/
def Lim (ks : List Str) (H : Hp) (a : Addr) : Prop := ∃ (one other : Str) (lim : Int) (x y : V), H a = some (.tup [.str one, .str other, .int lim, x, y]) ∧ 0 ≤ lim ∧ one ∈ ks ∧ other ∈ ks
def spLimits (C CW : Addr) : Sp := fun vs H Q _ => ∃ (q p dl wt bd : Addr) (ks : List Str) (d L : Str → Int) (as : List Addr) (ws : List WireS) (b : Int) (f : Tab Str), vs = [.ref q, .int b] ∧ PlanAt C H p dl wt ks d as ws ∧ WayAt CW H q p bd ∧ TabAt ks L b H bd f ∧ InvG ks d L b f ∧ Pot ks d L ws b ∧
  ∀ (H' : Hp) (r : Addr) (ls : List Addr), Same H H' → H' r = some (.lst (ls.map V.ref)) → (∀ a ∈ ls, Lim ks H' a) → Q (.ref r) H'
abbrev nLimits : List Str := ["self", "beat", "here", "there", "many", "found", "delay", "path", "at"]
theorem scLimits : FnScope nLimits ["self", "beat"] (defScope sLimits) := ⟨rfl, rfl, rfl, by decide +kernel, rfl, by decide +kernel, by decide +kernel⟩
theorem lims_of {ks : List Str} {H : Hp} : ∀ {ws : List WireS} {us : List V}, (∀ w ∈ ws, w.1 ∈ ks ∧ w.2.1 ∈ ks ∧ 0 ≤ w.2.2 ∧ w.2.2 ≤ 2) → Paired (fun (wr : WireS) v => ∃ a x y, v = V.ref a ∧ H a = some (.tup [.str wr.1, .str wr.2.1, .int wr.2.2, x, y])) ws us →
    ∃ ls : List Addr, us = ls.map V.ref ∧ ∀ a ∈ ls, Lim ks H a
  | _, _, _, .nil => ⟨[], rfl, fun _ h => nomatch h⟩
  | wr :: ws, _, hw, .cons ⟨a, x, y, e, h⟩ t => by
    obtain ⟨ls, e2, h2⟩ := lims_of (fun w hm => hw w (List.mem_cons_of_mem _ hm)) t
    obtain ⟨w1, w2, w3, _⟩ := hw wr List.mem_cons_self
    refine ⟨a :: ls, by rw [e, e2]; rfl, fun c hc => ?_⟩
    rcases List.mem_cons.mp hc with z | z
    · subst z
      exact ⟨_, _, _, x, y, h, w3, w1, w2⟩
    · exact h2 c z
theorem ok_limits {f C CW : Addr} {fd : FuncData} (F : Fun K "limits" "Ways.limits" sLimits f fd) (B : Bt mg) (T : PTxt K C) (U : WTxt K CW) : FnOk P w K mg base CX0 1 f fd ["self", "beat"] (spLimits C CW) := by
  refine F.ok scLimits (fun vs H Q E h => ?_) (fun cdv A outer s H vs Q E hr h => ?_)
  · obtain ⟨q, p, dl, wt, bd, ks, d, L, as, ws, b, f, rfl, _⟩ := h
    rfl
  · obtain ⟨q, p, dl, wt, bd, ks, d, L, as, ws, b, f, rfl, hP, hW, hT, hI, pot, k⟩ := h
    have hu := hu_of hr
    have hu1 := Nat.lt_of_succ_lt hu
    refine ⟨_, pss_cons (ps_setLc (i := 5) (own := [("at", 8), ("here", 2), ("there", 3), ("many", 4)]) (g := gTup K 2 (gCons (gName 8) (gCons (g3 K 2 3 4) gNil))) rfl scLimits.nd rfl rfl (sw_true rfl rfl rfl (by decide +kernel)) (pi_enumT (by rfl) B.enumerate (pa_cons (pe_fld (pe_fld (pv 0) rfl) rfl) pa_nil)) (blkOk_by (N := nLimits) (sc := defScope sLimits) (by decide +kernel))
        (fun _ _ _ _ _ => by exact pg_tup rfl (pgs_cons (pg_name (i := 8) scLimits.nd rfl (Or.inl rfl)) (pgs_cons (pg_tup rfl (pgs_cons (pg_name (i := 2) scLimits.nd rfl (Or.inl rfl)) (pgs_cons (pg_name (i := 3) scLimits.nd rfl (Or.inl rfl)) (pgs_cons (pg_name (i := 4) scLimits.nd rfl (Or.inl rfl)) pgs_nil)))) pgs_nil)))
        (fun _ _ _ _ _ => pts_nil)
        (fun _ _ _ _ _ => pe_tup (pa_cons (pv 2) (pa_cons (pv 3) (pa_cons (pv 4) (pa_cons (pe_tup (pa_cons (pv 8) pa_nil)) (pa_cons pe_bl pa_nil)))))))
      (pss_cons (ps_lock (ps_for PassesOwn.never rfl (pi_itemsT (pe_fld (pv 0) rfl)) (pg_tup rfl (pgs_cons (pg_tup rfl (pgs_cons (pg_name (i := 2) scLimits.nd rfl (Or.inl rfl)) (pgs_cons (pg_name (i := 3) scLimits.nd rfl (Or.inl rfl)) pgs_nil))) (pgs_cons (pg_tup rfl (pgs_cons (pg_name (i := 4) scLimits.nd rfl (Or.inl rfl)) (pgs_cons (pg_name (i := 6) scLimits.nd rfl (Or.inl rfl)) (pgs_cons (pg_name (i := 7) scLimits.nd rfl (Or.inl rfl)) pgs_nil)))) pgs_nil)))
        (pss_one (ps_if (pw_and (pt_cmpR op_gt (pv 6) (pv 1) (nomark _)) (pw_and1 (pt_cmpR (op_neNilT hu1) (pv 7) (pe_tup pa_nil) (nomark _)))).pt
          (pss_one (ps_expr (pe_bm PySem.F.plainAttrs_list PySem.F.slot_list_append PySem.F.type_list_append mt_append (pv 5) (pa_cons (pe_tup (pa_cons (pv 2) (pa_cons (pv 3) (pa_cons (pe_op op_sub (pv 4) pe_int) (pa_cons (pv 7) (pa_cons pe_bl pa_nil)))))) pa_nil)))) pss_nil))))
      (pss_one (ps_ret (pv 5)))), ?_⟩
    obtain ⟨⟨dx, hp⟩, hdl, hwt, hws⟩ := id hP
    obtain ⟨dxw, hq⟩ := id hW
    obtain ⟨kvs, hbd, hl, hlab, hent⟩ := id hT
    have ph := (phi_bounds pot.b0 pot.b35 pot.Lb pot.k6 hI.inv).1
    refine ⟨_, rfl, q, CW, dxw, _, _, rfl, hq, U.cl, U.nP, wfs_plan _ _, p, C, dx, _, _, rfl, hp, T.cl, T.nW, pfs_wires _ _, wt, as.map V.ref, rfl, SqT.of hwt, fun D hD => lc_each walk_enumT ws (by rw [List.length_map]; exact hws.length.symm) (by rw [List.length_map, hws.length]; exact Nat.le_trans pot.wl (by decide)) (fun _ => true)
      (fun wr v H => ∃ a x y, v = V.ref a ∧ H a = some (.tup [.str wr.1, .str wr.2.1, .int wr.2.2, x, y])) (fun e v H H' us us' h1 _ h3 ⟨a, x, y, e1, e2⟩ => ⟨a, x, y, e1, tup_stays h1 h3 e2⟩) hD (fun H' s => SqT.of (s _ _ hwt)) ?_ ?_⟩
    · rintro i wr x H1 H' acc N hi s hDa hal ⟨TT, x1, y1, rfl, hTT, rfl, hx1, hy1⟩ hy hn
      have ex1 : V.int (i : Nat) = x1 := Option.some.inj hx1
      subst ex1
      obtain ⟨a, ha, rfl⟩ := ref_get hy1
      obtain ⟨wr', hwr, haw⟩ := paired_get hws ha
      cases hi.symm.trans hwr
      have sT := Same.upd (o := .tup [V.int (i : Nat), V.ref a]) hTT
      refine ⟨TT, _, rfl, SqT.of upd_same, rfl, _, _, rfl, _, _, rfl, a, _, rfl, SqT.of (sT _ _ (s _ _ haw)), rfl, _, _, rfl, _, _, rfl, _, _, rfl, rfl, rfl, rfl, ?_⟩
      refine ⟨_, rfl, _, rfl, _, rfl, _, rfl, (by show 1 ≤ sizeLine; decide), fun p1 hp1 => ⟨(by show 5 ≤ sizeLine; decide), fun p2 hp2 => ?_⟩⟩
      have sA := Same.upd' (o := .tup [V.str wr.1, V.str wr.2.1, V.int wr.2.2, V.ref p1, V.bl false]) (Same.upd' sT hp1) hp2
      exact ⟨acc, sA _ _ hDa, hal, hy rfl _ _ sA ⟨p2, _, _, rfl, upd_same⟩⟩
    · intro H1 us s1 hD1 hpu
      rw [List.filter_eq_self.mpr fun _ _ => rfl] at hpu
      have hbd1 := s1 _ _ hbd
      obtain ⟨ls0, rfl, hls0⟩ := lims_of pot.we hpu
      have hl0 : ls0.length = ws.length := by
        have := hpu.length
        rw [List.length_map] at this
        exact this.symm
      have hwl := pot.wl
      refine ⟨bd, _, hbd1, True.intro, fun od => ?_⟩
      have hbd2 : L2.upd H1 bd (.frz od (.dT kvs)) bd = some (.frz od (.dT kvs)) := upd_same
      have ne2 : ∀ c, c ≠ bd → L2.upd H1 bd (.frz od (.dT kvs)) c = H1 c := fun c hc => upd_ne hc
      have nDb : D ≠ bd := ne_of hD1 hbd1 (by intro z; cases z)
      generalize L2.upd H1 bd (.frz od (.dT kvs)) = H2 at *
      have t12 : ∀ c ys, H1 c = some (.tup ys) → H2 c = some (.tup ys) := fun c ys z => by rw [ne2 c (ne_of z hbd1 (by intro q; cases q))]; exact z
      have hq2 : H2 q = some (.ins CW dxw (wfs p bd)) := by rw [ne2 q (ne_of hq hbd (by intro z; cases z))]; exact s1 _ _ hq
      have hD2 : H2 D = some (.lst (ls0.map V.ref)) := by rw [ne2 D nDb]; exact hD1
      have hbdD : bd ≠ D := nDb.symm
      refine ⟨_, rfl, q, CW, dxw, _, _, rfl, hq2, U.cl, U.nB, wfs_best _ _, bd, od, kvs, rfl, hbd2, for_it walk_itemsT (fun i σ H' => ∃ (v2 v3 v4 v6 v7 : Option V) (ls : List Addr), σ = [some (.ref q), some (.int b), v2, v3, v4, some (.ref D), v6, v7, none] ∧ SameB D H2 H' ∧ H' D = some (.lst (ls.map V.ref)) ∧ ls.length ≤ ws.length + i ∧ ∀ a ∈ ls, Lim ks H' a)
        ⟨none, none, none, none, none, ls0, rfl, fun _ _ _ z => z, hD2, by omega, fun a ha => ?_⟩ (fun i σ H' _ ⟨_, _, _, _, _, _, _, sb, _⟩ => sb _ _ hbdD hbd2) ?_ ?_⟩
      · obtain ⟨one, other, lim, x, y, e, r⟩ := hls0 a ha
        exact ⟨one, other, lim, x, y, t12 _ _ e, r⟩
      · rintro i x σ H3 H4 hi ⟨v2, v3, v4, v6, v7, ls, rfl, sb, hD3, hll, hls⟩ ⟨TT, kq, key, v, hkv, rfl, hTT, hkq, rfl⟩
        obtain ⟨h, t, lb, ek, ⟨tp, pp, xs, ev, htp, hpp, hxl⟩, hm0, heL, hhk, htk⟩ := hent _ (List.mem_of_getElem? hkv)
        have ek : key = key2 h t := ek
        have ev : v = .ref tp := ev
        subst ek ev
        obtain ⟨m, e⟩ := lb
        have hm0 : 0 ≤ m := hm0
        have heL : e ≤ m * b + L t := heL
        have sT := Same.upd (o := .tup [V.ref kq, V.ref tp]) hTT
        have hTT1 : L2.upd H3 TT (.tup [V.ref kq, V.ref tp]) TT = some (.tup [V.ref kq, V.ref tp]) := upd_same
        generalize L2.upd H3 TT (.tup [V.ref kq, V.ref tp]) = H4 at *
        have tD : ∀ c ys, H2 c = some (.tup ys) → H4 c = some (.tup ys) := fun c ys z => sT _ _ (sb c _ (ne_of z hD2 (by intro q; cases q)) z)
        have htp4 := tD _ _ (t12 _ _ (s1 _ _ htp))
        have hpp4 := tD _ _ (t12 _ _ (s1 _ _ hpp))
        have again : ∀ H5, Same H4 H5 → ∀ v2 v3 v4 v6 v7, ∃ (w2 w3 w4 w6 w7 : Option V) (ls' : List Addr), ([some (.ref q), some (.int b), v2, v3, v4, some (.ref D), v6, v7, none] : L2.St) = [some (.ref q), some (.int b), w2, w3, w4, some (.ref D), w6, w7, none] ∧ SameB D H2 H5 ∧ H5 D = some (.lst (ls'.map V.ref)) ∧ ls'.length ≤ ws.length + (i + 1) ∧ ∀ a ∈ ls', Lim ks H5 a := fun H5 s5 v2 v3 v4 v6 v7 =>
          ⟨v2, v3, v4, v6, v7, ls, rfl, fun c o hc z => s5 _ _ (sT _ _ (sb c o hc z)), s5 _ _ (sT _ _ hD3), by omega, fun a ha => by
            obtain ⟨one, other, lim, x, y, e, r⟩ := hls a ha
            exact ⟨one, other, lim, x, y, s5 _ _ (sT _ _ e), r⟩⟩
        refine ⟨TT, _, rfl, SqT.of hTT1, rfl, _, _, rfl, kq, _, rfl, SqT.of (sT _ _ hkq), rfl, _, _, rfl, _, _, rfl, rfl, _, _, rfl, tp, _, rfl, SqT.of htp4, rfl, _, _, rfl, _, _, rfl, _, _, rfl, rfl, rfl, ?_⟩
        refine ⟨_, rfl, _, rfl, _, _, rfl, rfl, _, rfl, ?_⟩
        by_cases hgt : b < e
        case neg =>
          rw [decide_eq_false hgt]
          exact iteF (iteF (again H4 (Same.refl _) _ _ _ _ _))
        rw [decide_eq_true hgt]
        refine iteT ⟨_, rfl, Nat.zero_le _, fun z hz => ⟨pp, z, xs, rfl, rfl, SqT.of ((Same.upd hz) _ _ hpp4), SqT.of upd_same, _, rfl, ?_⟩⟩
        have sz := Same.upd (o := .tup []) hz
        generalize L2.upd H4 z (.tup []) = H5 at *
        refine ite2 (fun _ => ?_) (fun _ => again H5 sz _ _ _ _ _)
        have hLt := pot.Lb t htk
        have hm1 : 1 ≤ m := by
          rcases Int.lt_or_le m 1 with h1 | h1
          · have : m = 0 := by omega
            rw [this] at heL
            omega
          · exact h1
        have hD5 := sz _ _ (sT _ _ hD3)
        have hi' : (i : Int) < 6717175 := by omega
        refine ⟨_, rfl, .inl ⟨rfl, _, SqL.of hD5⟩, _, rfl, _, rfl, _, rfl, _, _, rfl, rfl, _, rfl, (by show 5 ≤ sizeLine; decide), fun tn htn => ?_⟩
        have sN0 := Same.upd (o := .tup [V.str h, V.str t, V.int (m - 1), V.ref pp, V.bl true]) htn
        have tail : ∀ H6, Same H5 H6 → H6 tn = some (.tup [V.str h, V.str t, V.int (m - 1), V.ref pp, V.bl true]) → ∀ v2 v3 v4 v6 v7, ∃ (w2 w3 w4 w6 w7 : Option V) (ls' : List Addr), ([some (.ref q), some (.int b), v2, v3, v4, some (.ref D), v6, v7, none] : L2.St) = [some (.ref q), some (.int b), w2, w3, w4, some (.ref D), w6, w7, none] ∧ SameB D H2 (L2.upd H6 D (.lst (ls.map V.ref ++ [V.ref tn]))) ∧
            L2.upd H6 D (.lst (ls.map V.ref ++ [V.ref tn])) D = some (.lst (ls'.map V.ref)) ∧ ls'.length ≤ ws.length + (i + 1) ∧ ∀ a ∈ ls', Lim ks (L2.upd H6 D (.lst (ls.map V.ref ++ [V.ref tn]))) a := fun H6 sN htn6 v2 v3 v4 v6 v7 => by
          have hD6 := sN _ _ hD5
          have t67 : ∀ c ys, H6 c = some (.tup ys) → L2.upd H6 D (.lst (ls.map V.ref ++ [V.ref tn])) c = some (.tup ys) := fun c ys z => by rw [upd_ne (ne_of z hD6 (by intro q; cases q))]; exact z
          refine ⟨v2, v3, v4, v6, v7, ls ++ [tn], rfl, fun c o hc z => by rw [upd_ne hc]; exact sN _ _ (sz _ _ (sT _ _ (sb c o hc z))), by rw [upd_same, List.map_append]; rfl, by rw [List.length_append, List.length_singleton]; omega, fun a ha => ?_⟩
          rcases List.mem_append.mp ha with z | z
          · obtain ⟨one, other, lim, x, y, e, r⟩ := hls a z
            exact ⟨one, other, lim, x, y, t67 _ _ (sN _ _ (sz _ _ (sT _ _ e))), r⟩
          · rw [List.mem_singleton] at z
            subst z
            exact ⟨h, t, m - 1, _, _, t67 _ _ htn6, by omega, hhk, htk⟩
        exact ⟨D, _, _, rfl, rfl, sN0 _ _ hD5, (by rw [List.length_map, sizeLine_eq]; omega), tail _ sN0 upd_same _ _ _ _ _⟩
      · rintro σ H3 ⟨v2, v3, v4, v6, v7, ls, rfl, sb, hD3, hll, hls⟩
        have hbd3 := sb _ _ hbdD hbd2
        refine ⟨hbd3, ?_⟩
        have s03 : Same H (L2.upd H3 bd (.dT kvs)) := fun c o z => by
          by_cases hc : c = bd
          · subst hc
            rw [upd_same, ← z, hbd]
          · rw [upd_ne hc]
            exact sb _ _ (ne_of_none z hD) (by rw [ne2 c hc]; exact s1 _ _ z)
        refine ⟨_, rfl, k _ D ls s03 (by rw [upd_ne nDb]; exact hD3) fun a ha => ?_⟩
        obtain ⟨one, other, lim, x, y, e, r⟩ := hls a ha
        exact ⟨one, other, lim, x, y, by rw [upd_ne (ne_of e hbd3 (by intro q; cases q))]; exact e, r⟩
end
end Bw

/-! #### D15 -/
set_option Elab.async false
set_option linter.all false
set_option maxRecDepth 100000
set_option maxHeartbeats 4000000
namespace Bw
open PySem PySem.Spec PyProof.Rows L2
section
variable {P : Program} {w : World} {K : PySem.W.Frag} {mg : Str → Option Value} {base : Heap}
/-! ### placed -/
def spPlaced (C : Addr) : Sp := fun vs H Q _ => ∃ (p dl wt r : Addr) (ks : List Str) (d : Str → Int) (as : List Addr) (ws : List WireS) (ls : List Addr), vs = [.ref p, .ref r] ∧ PlanAt C H p dl wt ks d as ws ∧ H r = some (.lst (ls.map V.ref)) ∧ (∀ a ∈ ls, Lim ks H a) ∧ ks.length ≤ 50 ∧ ks.Nodup ∧
  ∀ (H' : Hp) (t fd : Addr), Same H H' → H' t = some (.tup [.ref fd, .non]) → H fd = none → H' fd = some (.dK (DI ks fun _ => 0)) → Q (.ref t) H'
abbrev nPlaced : List Str := ["plan", "limits", "name", "found", "before", "last", "_", "told", "one", "other", "limit", "ring"]
theorem scPlaced : FnScope nPlaced ["plan", "limits"] (defScope sPlaced) := ⟨rfl, rfl, rfl, by decide +kernel, rfl, by decide +kernel, by decide +kernel⟩
theorem ok_placed {f C : Addr} {fd : FuncData} (F : Fun K "placed" "placed" sPlaced f fd) (B : Bt mg) (T : PTxt K C) : FnOk P w K mg base CX0 1 f fd ["plan", "limits"] (spPlaced C) := by
  refine F.ok scPlaced (fun vs H Q E h => ?_) (fun cdv A outer s H vs Q E hr h => ?_)
  · obtain ⟨p, dl, wt, r, ks, d, as, ws, ls, rfl, _⟩ := h
    rfl
  · obtain ⟨p, dl, wt, r, ks, d, as, ws, ls, rfl, hP, hr0, hls, hk50, hnd, k⟩ := h
    have hu := hu_of hr
    refine ⟨_, pss_cons (ps_par3 (i := 3) (j := 4) (l := 5) rfl scPlaced.nd rfl rfl rfl (by decide) (by decide) (by decide) rfl rfl rfl
        (pa_cons (pe_lock (pe_dc (own := [("name", 2)]) (g := gName 2) rfl scPlaced.nd (pi_keys (pe_fld (pv 0) rfl)) (blkOk_by (N := nPlaced) (sc := defScope sPlaced) (by decide +kernel)) (fun _ _ _ _ _ => pg_name (i := 2) scPlaced.nd rfl (Or.inl rfl)) (fun _ _ _ _ _ => pts_nil) (fun _ _ _ _ _ => pv 2) (fun _ _ _ _ _ => pe_int)))
          (pa_cons pe_dnewK (pa_cons pe_non pa_nil))) (by rfl))
      (pss_cons (ps_for PassesOwn.never rfl (pi_range1 (by rfl) B.range (pa_cons (pe_op op_add (pe_callB call_lenD (by rfl) B.len PySem.boot_len (pa_cons (pv 3) pa_nil)) pe_int) pa_nil)) (pg_name (i := 6) scPlaced.nd rfl (Or.inl rfl))
        (pss_cons (ps_set (i := 5) scPlaced.nd rfl (Or.inl rfl) pe_non)
        (pss_cons (ps_for PassesOwn.never rfl (pi_list (pv 1)) (pg_name (i := 7) scPlaced.nd rfl (Or.inl rfl))
          (pss_cons (ps_asg (pe_slice sl_tup (pv 7) po_none (po_some pe_int)) (pg_tup rfl (pgs_cons (pg_name (i := 8) scPlaced.nd rfl (Or.inl rfl)) (pgs_cons (pg_name (i := 9) scPlaced.nd rfl (Or.inl rfl)) (pgs_cons (pg_name (i := 10) scPlaced.nd rfl (Or.inl rfl)) pgs_nil)))))
          (pss_one (ps_if (pt_cmpR op_lt (pe_op op_add (pe_dget hu (pv 3) (pv 9) (fun _ _ => rfl)) (pv 10)) (pe_dget hu (pv 3) (pv 8) (fun _ _ => rfl)) (nomark _)) pss_never pss_nil))))
        (pss_one (ps_if (pt_cmp (pc_isN (pv 5))) (pss_one (ps_ret (pe_tup (pa_cons (pv 3) (pa_cons pe_non pa_nil))))) pss_nil)))))
      pss_never), ?_⟩
    obtain ⟨⟨dx, hp⟩, hdl, hwt, hws⟩ := id hP
    refine ⟨dl, _, hdl, True.intro, fun od => ?_⟩
    have hdlL : L2.upd H dl (.frz od (.dK (DI ks d))) dl = some (.frz od (.dK (DI ks d))) := upd_same
    have neL : ∀ c, c ≠ dl → L2.upd H dl (.frz od (.dK (DI ks d))) c = H c := fun c hc => upd_ne hc
    generalize L2.upd H dl (.frz od (.dK (DI ks d))) = HL at *
    have hpL : HL p = some (.ins C dx (pfs dl wt)) := by rw [neL p (ne_of hp hdl (by intro z; cases z))]; exact hp
    refine ⟨_, rfl, p, C, dx, _, _, rfl, hpL, T.cl, T.nD, pfs_delays _ _, dl, od, rfl, .inl ⟨DI ks d, hdlL, fun D hD => dc_each walk_keys ks DI_length.symm (by rw [DI_length]; exact Nat.le_trans hk50 (by decide)) (fun _ => true) (fun y => Sum.inr y) (fun _ => .int 0) hD (fun H' s => s _ _ hdlL) ?_ ?_⟩⟩
    · rintro j z x H9 H9' kvs N hj s9 hDa hal ⟨rfl, k', v', hk, rfl⟩ hy hn
      have ek : kV k' = V.str z := by
        unfold DI at hk
        rw [List.getElem?_map, hj] at hk
        have h1 : Sum.inr z = k' := congrArg Prod.fst (Option.some.inj hk)
        rw [← h1]
        rfl
      rw [ek]
      exact ⟨rfl, _, rfl, kvs, Sum.inr z, rfl, hDa, hal, hy rfl _ (Same.refl _)⟩
    · intro H1 s1 hD1
      rw [List.filter_eq_self.mpr fun _ _ => rfl, putAll_new (List.Pairwise.map _ (fun a b (hab : a ≠ b) e => hab (Sum.inr.inj e)) hnd)] at hD1
      have hD1 : H1 D = some (.dK (DI ks fun _ => 0)) := hD1
      have hdl1 := s1 _ _ hdlL
      refine ⟨hdl1, ?_⟩
      have nDd : D ≠ dl := ne_of hD1 hdl1 (by intro z; cases z)
      have D0 : H D = none := by rw [← neL D nDd]; exact hD
      have s02 : Same H (L2.upd H1 dl (.dK (DI ks d))) := fun c o z => by
        by_cases hc : c = dl
        · subst hc
          rw [upd_same, ← z, hdl]
        · rw [upd_ne hc]
          exact s1 _ _ (by rw [neL c hc]; exact z)
      have hD2 : L2.upd H1 dl (.dK (DI ks d)) D = some (.dK (DI ks fun _ => 0)) := by rw [upd_ne nDd]; exact hD1
      generalize L2.upd H1 dl (.dK (DI ks d)) = H2 at *
      intro bf hbf
      have s23 := Same.upd (o := .dK []) hbf
      generalize L2.upd H2 bf (.dK []) = H3 at *
      have s03 := s02.trans s23
      have hD3 := s23 _ _ hD2
      have hr3 := s03 _ _ hr0
      refine ⟨_, _, _, rfl, ?_⟩
      refine ⟨_, rfl, D, _, rfl, hD3, _, _, rfl, rfl, _, rfl, by omega, by rw [DI_length]; omega, for_range (fun i σ H' => i = 0 ∧ σ = [some (.ref p), some (.ref r), none, some (.ref D), some (.ref bf), some .non, none, none, none, none, none, none] ∧ H' = H3) ⟨rfl, rfl, rfl⟩ ?_ ?_⟩
      · rintro i σ H' hi ⟨rfl, rfl, rfl⟩
        refine ⟨_, rfl, r, rfl, ⟨_, SqL.of hr3⟩, for_it walk_list (fun j σ H4 => ∃ v7 v8 v9 v10 : Option V, σ = [some (.ref p), some (.ref r), none, some (.ref D), some (.ref bf), some .non, some (.int (0 + ((0 : Nat) : Int))), v7, v8, v9, v10, none] ∧ Same H' H4) ⟨none, none, none, none, rfl, Same.refl _⟩ (fun j σ H4 _ ⟨_, _, _, _, _, s4⟩ => SqL.of (s4 _ _ hr3)) ?_ ?_⟩
        · rintro j x σ H4 H4' hj ⟨v7, v8, v9, v10, rfl, s4⟩ ⟨rfl, hx⟩
          obtain ⟨a, ha, rfl⟩ := ref_get hx
          obtain ⟨one, other, lim, x, y, hae, hl0, hone, hother⟩ := hls a (List.mem_of_getElem? ha)
          have ha4 := s4 _ _ (s03 _ _ hae)
          refine ⟨_, rfl, 3, rfl, a, _, rfl, SqT.of ha4, (fun z => absurd z.2 (by show ¬ (HT.sIx 5 5 (some 3) = 5); decide)), fun q hq => ?_⟩
          have sq := Same.upd (o := .tup (cutV [V.str one, V.str other, V.int lim, x, y] none (some 3))) hq
          have hq5 : L2.upd H4' q (.tup (cutV [V.str one, V.str other, V.int lim, x, y] none (some 3))) q = some (.tup [V.str one, V.str other, V.int lim]) := upd_same
          generalize L2.upd H4' q (.tup (cutV [V.str one, V.str other, V.int lim, x, y] none (some 3))) = H5 at *
          have hD5 := sq _ _ (s4 _ _ hD3)
          refine ⟨q, _, rfl, SqT.of hq5, rfl, _, _, rfl, _, _, rfl, _, _, rfl, rfl, ?_⟩
          refine ⟨_, rfl, _, rfl, D, _, rfl, get_DI hD5 hother, _, rfl, _, _, rfl, rfl, ?_⟩
          refine ⟨_, rfl, _, rfl, D, _, rfl, get_DI hD5 hone, _, _, rfl, rfl, _, rfl, ?_⟩
          rw [decide_eq_false (by omega)]
          exact iteF ⟨_, _, _, _, rfl, s4.trans sq⟩
        · rintro σ H4 ⟨v7, v8, v9, v10, rfl, s4⟩
          refine ⟨_, rfl, _, rfl, iteT ⟨_, rfl, (by show 2 ≤ sizeLine; decide), fun t ht => ?_⟩⟩
          have st := Same.upd (o := .tup [V.ref D, V.non]) ht
          exact k _ t D (s03.trans (s4.trans st)) upd_same D0 (st _ _ (s4 _ _ hD3))
      · rintro σ H' ⟨h1, _, _⟩
        exact absurd h1 (by rw [DI_length]; omega)
/-! ### with_beat -/
def spWithBeat (C CB CN : Addr) : Sp := fun vs H Q E =>
  (∃ (p dl wt : Addr) (ks : List Str) (d L : Str → Int) (as : List Addr) (ws : List WireS) (b : Int), vs = [.ref p, .int b] ∧ PlanAt C H p dl wt ks d as ws ∧ Pot ks d L ws b ∧ ks.Nodup ∧ (∀ (H' : Hp) (fd : Addr), Same H H' → H fd = none → H' fd = some (.dK (DI ks fun _ => 0)) → Q (.ref fd) H')) ∨
  (∃ (p dl wt : Addr) (ks : List Str) (d : Str → Int) (as : List Addr) (ws : List WireS) (v : V), vs = [.ref p, v] ∧ PlanAt C H p dl wt ks d as ws ∧ ks ≠ [] ∧ (v = .non ∨ ∃ i k, v = .int i ∧ k ∈ ks ∧ i < d k) ∧ ∀ H', Same H H' → E (.ref CN) none H') ∨
  (∃ i j, vs = [.int i, .int j] ∧ E (.ref CB) none H)
theorem scWithBeat : FnScope ["plan", "beat", "found"] ["plan", "beat"] (defScope sWithBeat) := ⟨rfl, rfl, rfl, by decide +kernel, rfl, by decide +kernel, by decide +kernel⟩
theorem ok_withbeat {f C CW CB CN f1 f2 f3 f4 fI : Addr} {fd fd1 fd2 fd3 fd4 fdI : FuncData} (F : Fun K "with_beat" "with_beat" sWithBeat f fd) (B : Bt mg) (T : PTxt K C) (U : WTxt K CW) (I : ITxt K mg C) (XB : XTxt K mg "BadPlan" CB) (XN : XTxt K mg "NoPlacing" CN)
    (F1 : Fun K "check_plan" "check_plan" sCheck f1 fd1) (b1 : Binds K fd1 ["thing"] []) (mg1 : mg "check_plan" = some (.ref f1))
    (F2 : Fun K "is_number" "is_number" sIsNum f2 fd2) (b2 : Binds K fd2 ["thing"] []) (mg2 : mg "is_number" = some (.ref f2))
    (F3 : Fun K "placed" "placed" sPlaced f3 fd3) (b3 : Binds K fd3 ["plan", "limits"] []) (mg3 : mg "placed" = some (.ref f3))
    (F4 : Fun K "limits" "Ways.limits" sLimits f4 fd4) (b4 : Binds K fd4 ["self", "beat"] []) (m4 : Meth K CW "limits" f4)
    (GI : FnOk P w K mg base CX0 2 fI fdI ["self", "plan"] (spWInit C CW)) (bI : Binds K fdI ["self", "plan"] []) (MW : Mk K CW fI) (mgW : mg "Ways" = some (.ref CW)) :
    FnOk P w K mg base (L2.CX P w) 4 f fd ["plan", "beat"] (spWithBeat C CB CN) := by
  have G1 : FnOk P w K mg base (L2.CX P w) 1 f1 fd1 ["thing"] (spCheck C CB) := ok_check F1 B T I XB
  have G2 : FnOk P w K mg base CX0 1 f2 fd2 ["thing"] spIsNum := ok_isNum F2 B
  have G3 : FnOk P w K mg base CX0 1 f3 fd3 ["plan", "limits"] (spPlaced C) := ok_placed F3 B T
  have G4 : FnOk P w K mg base CX0 1 f4 fd4 ["self", "beat"] (spLimits C CW) := ok_limits F4 B T U
  refine F.okX scWithBeat (fun vs H Q E h => ?_) (fun cdv A outer s H vs Q E hr h => ?_)
  · rcases h with ⟨p, dl, wt, ks, d, L, as, ws, b, rfl, _⟩ | ⟨p, dl, wt, ks, d, as, ws, v, rfl, _⟩ | ⟨i, j, rfl, _⟩ <;> rfl
  · have hu := hu_of hr
    have hr1 : Room 1 _ := hr.mono (by decide)
    refine ⟨_, pss_cons (ps_expr (pe_call G1 hr1 (by rfl) mg1 F1.kp b1 .nil (passes_call (takes_of rfl rfl rfl rfl) (fun _ _ _ _ h => h)) (pa_cons (pv 0) pa_nil)))
      (pss_cons (ps_set (i := 2) scWithBeat.nd rfl (Or.inl rfl) (pe_ifExp (pw_and (pt_val (pe_call G2 hr1 (by rfl) mg2 F2.kp b2 .nil pass0 (pa_cons (pv 1) pa_nil))) (pw_and1 (pt_cmpR op_ge (pv 1) (pe_maxVals rfl (by rfl) B.max (pe_fld (pv 0) rfl)) (nomark _)))).pt
          (pe_ix ix_tup (pe_call G3 hr1 (by rfl) mg3 F3.kp b3 .nil pass0 (pa_cons (pv 0) (pa_cons (pe_meth (pe_make MW GI hr (by rfl) mgW bI .nil pass0 (pa_cons (pv 0) pa_nil)) U.cl m4 G4 hr1 b4 .nil pass0 (pa_cons (pv 1) pa_nil)) pa_nil))) pe_int (fun _ _ => rfl)) pe_non))
      (pss_cons (ps_if (pt_cmp (pc_isN (pv 2))) (pss_one (ps_raise rfl (takes_of rfl rfl rfl rfl) (pmk_own PySem.F.excBase_ValueError XN.xP XN.mgx XN.kP (raises_own XN.bP XN.tP) rfl))) pss_nil)
      (pss_one (ps_ret (pv 2))))), ?_⟩
    rcases h with ⟨p, dl, wt, ks, d, L, as, ws, b, rfl, hP, pot, hnd, k⟩ | ⟨p, dl, wt, ks, d, as, ws, v, rfl, hP, hne, hv, k⟩ | ⟨i, j, rfl, k⟩
    · obtain ⟨⟨dx, hp⟩, hdl, hwt, hws⟩ := id hP
      refine ⟨_, rfl, .inl ⟨p, dx, _, rfl, hp, ?_⟩⟩
      refine ⟨_, rfl, _, rfl, True.intro, _, rfl, iteT ?_⟩
      refine ⟨_, rfl, _, rfl, p, C, dx, _, _, rfl, hp, T.cl, T.nD, pfs_delays _ _, dl, _, ks.map d, rfl, hdl, (by unfold DI; rw [List.map_map, List.map_map]; rfl), (by intro z; rw [List.map_eq_nil_iff] at z; have := pot.out; rw [z] at this; cases this), fun mm h1 h2 => ⟨_, _, rfl, rfl, _, rfl, ?_⟩⟩
      have hmb : mm ≤ b := by
        obtain ⟨kk, hk, rfl⟩ := List.mem_map.mp h1
        have := pot.dL kk
        have := pot.Lb kk hk
        omega
      rw [decide_eq_true hmb]
      refine iteT ?_
      refine ⟨_, rfl, _, rfl, fun x dxw hx hdxw hne => ⟨x, dxw, p, dl, wt, H, ks, d, L, as, ws, b, rfl, upd_same, (Same.upd hdxw).put hx, hx, hP, pot, hnd, fun H2 bd f s2 hW2 hT2 hI2 => ⟨rfl, ?_⟩⟩⟩
      obtain ⟨dx2, hq2⟩ := id hW2
      refine ⟨x, dx2, _, rfl, hq2, wfs_no _ _ (by decide +kernel) (by decide +kernel), _, rfl, x, p, dl, wt, bd, ks, d, L, as, ws, b, f, rfl, hP.mono s2, hW2, hT2, hI2, pot, fun H3 r ls s3 hr3 hls3 => ?_⟩
      have s03 := s2.trans s3
      refine ⟨p, dl, wt, r, ks, d, as, ws, ls, rfl, hP.mono s03, hr3, hls3, Nat.le_trans pot.k6 (by decide), hnd, fun H4 t fd s4 ht hfd hfd4 => ?_⟩
      refine ⟨t, _, 0, .ref fd, rfl, rfl, SqT.of ht, atI_nat (j := 0) rfl, ?_⟩
      exact ⟨_, rfl, _, rfl, iteF ⟨_, rfl, k H4 fd (s03.trans s4) (s03.free hfd) hfd4⟩⟩
    · obtain ⟨⟨dx, hp⟩, hdl, hwt, hws⟩ := id hP
      refine ⟨_, rfl, .inl ⟨p, dx, _, rfl, hp, ?_⟩⟩
      rcases hv with rfl | ⟨i, kk, rfl, hk, hlt⟩
      · exact ⟨_, rfl, _, rfl, True.intro, _, rfl, iteF (iteF ⟨_, rfl, _, rfl, iteT (k H (Same.refl _))⟩)⟩
      · refine ⟨_, rfl, _, rfl, True.intro, _, rfl, iteT ?_⟩
        refine ⟨_, rfl, _, rfl, p, C, dx, _, _, rfl, hp, T.cl, T.nD, pfs_delays _ _, dl, _, ks.map d, rfl, hdl, (by unfold DI; rw [List.map_map, List.map_map]; rfl), (by intro z; rw [List.map_eq_nil_iff] at z; exact hne z), fun mm h1 h2 => ⟨_, _, rfl, rfl, _, rfl, ?_⟩⟩
        have hmi : ¬ mm ≤ i := by
          have := h2 _ (List.mem_map.mpr ⟨kk, hk, rfl⟩)
          omega
        rw [decide_eq_false hmi]
        exact iteF ⟨_, rfl, _, rfl, iteT (k H (Same.refl _))⟩
    · exact ⟨_, rfl, .inr ⟨i, rfl, k⟩⟩
end
end Bw

/-! #### R12 -/
set_option Elab.async false
set_option linter.all false
set_option maxRecDepth 100000
set_option maxHeartbeats 4000000
namespace Bw
open PySem PySem.Spec PyProof.Rows L2
section
variable {X : Cx}
/-- two lists of the same flat values: != is False -/
def rNeSameL (K : PySem.W.Frag) : R2 := fun x y H Q => ∃ (a b : Addr) (xs : List V), x = .ref a ∧ y = .ref b ∧ SqL K H a xs ∧ SqL K H b xs ∧ (∀ v ∈ xs, flatB v = true) ∧ Q (.bl false) H
theorem eq_pair {A : Around} {s : Shared} : ∀ {xs : List V} {us ws : List Value}, Vals xs us → Vals xs ws → (∀ v ∈ xs, flatB v = true) → ∀ j (h1 : j < us.length) (h2 : j < ws.length), SeqAt.EqAt A s us[j] ws[j] true
  | _, _, _, .nil, .nil, _, j, h1, _ => absurd h1 (Nat.not_lt_zero j)
  | _, _, _, .cons a1 b1, .cons a2 b2, hf, 0, _, _ => eqAt_same a1 a2 (hf _ List.mem_cons_self)
  | _, _, _, .cons a1 b1, .cons a2 b2, hf, j + 1, h1, h2 => eq_pair b1 b2 (fun v hv => hf v (List.mem_cons_of_mem _ hv)) j (Nat.lt_of_succ_lt_succ h1) (Nat.lt_of_succ_lt_succ h2)
theorem op_neSameL (hu : X.A.units < cLine) : OpR X (compareOp .NotEq) (rNeSameL X.K) := by
  intro pins s σ H x y v u Q I rx ry h
  obtain ⟨a, b, xs, rfl, rfl, ha, hb, hf, hQ⟩ := h
  obtain rfl : v = Value.ref a := rx
  obtain rfl : u = Value.ref b := ry
  obtain ⟨us, r1, p1, _⟩ := I.list ha
  obtain ⟨ws, r2, p2, _⟩ := I.list hb
  have hsz : us.toArray.size = ws.toArray.size := by
    rw [List.size_toArray, List.size_toArray, ← r1.length, ← r2.length]
  show wpAny (model X.prog X.w) X.A (richCompare .NotEq _ _) _ _ _
  refine SeqAt.RcNeAt.lists (e := fun _ => true) p1.isList p2.isList hsz hu (fun j h1 h2 => ?_) _ _ _ _ ?_
  · have := eq_pair (A := X.A.in1) (s := s) r1 r2 hf j (by simpa using h1) (by simpa using h2)
    simpa using this
  · rw [show ((List.range us.toArray.size).all fun _ => true) = true from List.all_eq_true.mpr fun _ _ => rfl]
    exact ⟨.bl false, H, I, rfl, hQ⟩
end
/-! ### sorted lists are told by their items -/
theorem rising_pair : ∀ {r : List Str} {p : Str}, risingS p r = true → (p :: r).Pairwise fun x y => x.cps.toList ≤ y.cps.toList
  | [], p, _ => List.pairwise_singleton _ _
  | x :: r, p, h => by
    have h' : (!ltCps x.cps.toList p.cps.toList && risingS x r) = true := h
    rw [Bool.and_eq_true] at h'
    have h1 : ¬ x.cps.toList < p.cps.toList := by
      have := h'.1
      rw [PyProof.Rows.ltCps_eq] at this
      intro z
      rw [decide_eq_true z] at this
      cases this
    have h2 := rising_pair h'.2
    refine List.pairwise_cons.mpr ⟨fun y hy => ?_, h2⟩
    have hx : p.cps.toList ≤ x.cps.toList := List.not_lt.mp h1
    rcases List.mem_cons.mp hy with z | z
    · subst z; exact hx
    · exact List.le_trans hx ((List.pairwise_cons.mp h2).1 y z)
theorem sorted_pair {ys : List Str} (h : sortedS ys = true) : ys.Pairwise fun x y => x.cps.toList ≤ y.cps.toList := by
  cases ys with
  | nil => exact List.Pairwise.nil
  | cons p r => exact rising_pair h
theorem str_ext {a b : Str} (h : a.cps.toList = b.cps.toList) : a = b := by
  obtain ⟨a⟩ := a
  obtain ⟨b⟩ := b
  have : a = b := by
    have := congrArg List.toArray h
    simpa using this
  rw [this]
theorem sort_uniq {xs ys : List Str} (hp : ys.Perm xs) (hs : sortedS ys = true) (hx : xs.Pairwise fun x y => x.cps.toList < y.cps.toList) : ys = xs :=
  List.Perm.eq_of_pairwise (le := fun x y : Str => x.cps.toList ≤ y.cps.toList) (fun a b _ _ h1 h2 => str_ext (List.le_antisymm h1 h2)) (sorted_pair hs) (hx.imp fun {x y} h => List.le_of_lt h) hp
theorem nmS_rise : ∀ n, 2 ≤ n → n ≤ 5 → (nmS n ++ [("out" : Str)]).Pairwise fun x y => x.cps.toList < y.cps.toList := by
  intro n h2 h5
  have : n = 2 ∨ n = 3 ∨ n = 4 ∨ n = 5 := by omega
  rcases this with rfl | rfl | rfl | rfl <;> decide +kernel
theorem nmS_words : ∀ n, 2 ≤ n → n ≤ 5 → (nmS n).all isWord = true ∧ ("a" : Str) ∈ nmS n ∧ ("out" : Str) ∉ nmS n ∧ (nmS n).all (fun k => decide (k.length ≤ 1000)) = true := by
  intro n h2 h5
  have : n = 2 ∨ n = 3 ∨ n = 4 ∨ n = 5 := by omega
  rcases this with rfl | rfl | rfl | rfl <;> decide +kernel
/-! ### the law's delays as an argument of Plan -/
def dlOf (ns : List Str) (d : Str → Int) : Dl := ns.map fun k => (k, V.int (d k))
theorem dlOf_keys {ns : List Str} {d : Str → Int} : (dlOf ns d).map (·.1) = ns := by
  unfold dlOf
  rw [List.map_map]
  exact List.map_id _
theorem dlOf_kvs {ns : List Str} {d : Str → Int} : kvsD (dlOf ns d) = DI ns d := by
  unfold kvsD dlOf DI
  rw [List.map_map]
  rfl
theorem dlOf_d {ns : List Str} {d : Str → Int} (h : ∀ k, k ∉ ns → d k = 0) (k : Str) : dOf (dlOf ns d) k = d k := by
  unfold dOf
  rw [dlOf_kvs]
  by_cases hk : k ∈ ns
  · rw [valV_DI hk]
  · rw [valV_DI_none hk, h k hk]
theorem knS_dlOf {ns : List Str} {d : Str → Int} (h : ("out" : Str) ∉ ns) : knS (dlOf ns d) = ns ++ [("out" : Str)] := by
  unfold knS
  rw [dlOf_keys, if_neg h]
theorem wsOf_some (ws : List WireS) : wsOf (ws.map some) = ws := by
  unfold wsOf
  induction ws with
  | nil => rfl
  | cons w r ih =>
    rw [List.map_cons, List.filterMap_cons]
    show w :: _ = _
    rw [ih]
theorem okD_of {ns : List Str} {d : Str → Int} (h1 : 1 ≤ ns.length) (h2 : ns.length ≤ 12) (hw : ns.all isWord = true) (hd : ∀ k, 0 ≤ d k ∧ d k ≤ 1000) (h0 : ∀ k, k ∉ ns → d k = 0) (ho : d ("out" : Str) = 0) : okD (dlOf ns d) = true := by
  unfold okD
  have hl : ((dlOf ns d).length : Int) = (ns.length : Int) := by unfold dlOf; rw [List.length_map]
  rw [hl, dlOf_d h0, decide_eq_true (by omega), decide_eq_true (by omega), decide_eq_true ho]
  have a1 : (dlOf ns d).all (fun kv => isWord kv.1) = true := by
    unfold dlOf
    rw [List.all_map]
    exact hw
  have a2 : (dlOf ns d).all (fun kv => okV kv.2) = true := by
    unfold dlOf
    rw [List.all_map]
    refine List.all_eq_true.mpr fun k _ => ?_
    show (if decide ((0 : Int) ≤ d k) = true then decide (d k ≤ 1000) else false) = true
    rw [decide_eq_true (hd k).1, if_pos rfl, decide_eq_true (hd k).2]
  rw [a1, a2]
  rfl
theorem okW_of {kn : List Str} {ws : List WireS} (hl : ws.length ≤ 40) (hw : ∀ w ∈ ws, 0 ≤ w.2.2 ∧ w.2.2 ≤ 20 ∧ w.1 ∈ kn ∧ w.2.1 ∈ kn) : okW kn (ws.map some) = true := by
  unfold okW
  rw [List.length_map, decide_eq_true (by omega), List.all_map]
  show (true && _) = true
  rw [Bool.true_and]
  refine List.all_eq_true.mpr fun w hm => ?_
  obtain ⟨w1, w2, w3, w4⟩ := hw w hm
  show okWire kn (some w) = true
  rw [okWire_some, decide_eq_true w1, decide_eq_true w2, decide_eq_true w3, decide_eq_true w4]
  rfl
theorem delAt_of {H : Hp} {a : Addr} {ns : List Str} {d : Str → Int} (h : H a = some (.dK (DI ns d))) (hn : ns.Nodup) (hw : ns.all (fun k => decide (k.length ≤ 1000)) = true) (hl : ns.length ≤ 50) : DelAt H (.ref a) (some (dlOf ns d)) := by
  refine ⟨a, rfl, by rw [dlOf_kvs]; exact h, by rw [dlOf_keys]; exact hn, fun kv hm => ?_, fun kv hm => ?_, by unfold dlOf; rw [List.length_map]; exact hl⟩
  · obtain ⟨k, _, rfl⟩ := List.mem_map.mp hm
    exact True.intro
  · obtain ⟨k, hk, rfl⟩ := List.mem_map.mp hm
    exact of_decide_eq_true (List.all_eq_true.mp hw k hk)
theorem wirItems {H : Hp} : ∀ {as : List Addr} {ws : List WireS}, WiresAt H as ws → Paired (fun a o => WItem H a o) as (ws.map some)
  | _, _, .nil => .nil
  | _, _, .cons h t => .cons h (wirItems t)
theorem wirAt_of {H : Hp} {a : Addr} {as : List Addr} {ws : List WireS} (h : H a = some (.lst (as.map V.ref)) ∨ H a = some (.tup (as.map V.ref))) (hw : WiresAt H as ws) (hl : ws.length ≤ 1000) : WirAt H (.ref a) as (some (ws.map some)) :=
  ⟨a, rfl, h, wirItems hw, by rw [List.length_map]; exact hl⟩
end Bw

/-! #### D16 -/
set_option Elab.async false
set_option linter.all false
set_option maxRecDepth 100000
set_option maxHeartbeats 4000000
namespace Bw
open PySem PySem.Spec PyProof.Rows L2
theorem DelAt.mono {H H' : Hp} {v : V} {D : Option Dl} (s : Same H H') (h : DelAt H v D) : DelAt H' v D := by
  cases D with
  | none => exact h
  | some l =>
    obtain ⟨a, e, h1, r⟩ := h
    exact ⟨a, e, s _ _ h1, r⟩
theorem WItem.mono {H H' : Hp} {a : Addr} {o : Option WireS} (s : Same H H') (h : WItem H a o) : WItem H' a o := by
  cases o with
  | none =>
    obtain ⟨xs, e⟩ := h
    exact ⟨xs, s _ _ e⟩
  | some w => exact s _ _ h
theorem WirAt.mono {H H' : Hp} {v : V} {as : List Addr} {W : Option (List (Option WireS))} (s : Same H H') (h : WirAt H v as W) : WirAt H' v as W := by
  cases W with
  | none => exact h
  | some items =>
    obtain ⟨a, e, h1, h2, h3⟩ := h
    refine ⟨a, e, ?_, Paired.mapP h2 fun _ _ z => z.mono s, h3⟩
    rcases h1 with z | z
    · exact .inl (s _ _ z)
    · exact .inr (s _ _ z)
/-- two arguments that Plan refuses -/
def BadAt (H : Hp) (p : Addr) : Prop := ∃ (dv wv : V) (D : Option Dl) (as : List Addr) (W : Option (List (Option WireS))), H p = some (.tup [dv, wv]) ∧ DelAt H dv D ∧ WirAt H wv as W ∧ okPlan D W = false
theorem BadAt.mono {H H' : Hp} {p : Addr} (s : Same H H') (h : BadAt H p) : BadAt H' p := by
  obtain ⟨dv, wv, D, as, W, h1, h2, h3, h4⟩ := h
  exact ⟨dv, wv, D, as, W, s _ _ h1, h2.mono s, h3.mono s, h4⟩
abbrev tNg (i : Int) : TE := tUn (rU fun i => .int (-i)) (tC (.int i))
/-- the pieces: a dict, a list -/
def DPiece (t : TE) (D : Option Dl) : Prop := ∀ (σ : L2.St) (H : Hp) (Q : VK), (∀ H' v, Same H H' → DelAt H' v D → Q v H') → t σ H Q
def WPiece (t : TE) (W : Option (List (Option WireS))) : Prop := ∀ (σ : L2.St) (H : Hp) (Q : VK), (∀ H' v as, Same H H' → WirAt H' v as W → Q v H') → t σ H Q
theorem d_none : DPiece (tC .non) none := fun σ H Q k => k H _ (Same.refl _) rfl
theorem d_empty : DPiece tDNewK (some []) := fun σ H Q k p hp => k _ _ (Same.upd hp) (show DelAt _ (.ref p) (some ([] : Dl)) from ⟨p, rfl, upd_same, List.nodup_nil, fun _ h => absurd h List.not_mem_nil, fun _ h => absurd h List.not_mem_nil, Nat.zero_le _⟩)
theorem d_one {x : Str} {v : V} (hv : Plain v) (hx : x.length ≤ 1000) : DPiece (tDisp [(tC (.str x), tC v)]) (some [(x, v)]) := fun σ H Q k p hp =>
  ⟨upd_same, [(Sum.inr x, v)], rfl, (by show 1 ≤ 15; decide), k _ _ ((Same.upd hp).put hp) ⟨p, rfl, upd_same, List.nodup_cons.mpr ⟨List.not_mem_nil, List.nodup_nil⟩, fun kv h => by rw [List.mem_singleton.mp h]; exact hv, fun kv h => by rw [List.mem_singleton.mp h]; exact hx, (by show 1 ≤ 50; decide)⟩⟩
theorem d_neg {x : Str} {i : Int} (hx : x.length ≤ 1000) : DPiece (tDisp [(tC (.str x), tNg i)]) (some [(x, .int (-i))]) := fun σ H Q k p hp =>
  ⟨i, rfl, upd_same, [(Sum.inr x, .int (-i))], rfl, (by show 1 ≤ 15; decide), k _ _ ((Same.upd hp).put hp) ⟨p, rfl, upd_same, List.nodup_cons.mpr ⟨List.not_mem_nil, List.nodup_nil⟩, fun kv h => by rw [List.mem_singleton.mp h]; exact True.intro, fun kv h => by rw [List.mem_singleton.mp h]; exact hx, (by show 1 ≤ 50; decide)⟩⟩
theorem d_two : DPiece (tDisp [(tC (.str "a"), tC (.int 1)), (tC (.str "out"), tC (.int 2))]) (some [("a", .int 1), ("out", .int 2)]) := fun σ H Q k p hp =>
  ⟨upd_same, [(Sum.inr "a", .int 1), (Sum.inr "out", .int 2)], rfl, by decide, k _ _ ((Same.upd hp).put hp) ⟨p, rfl, by rw [upd_same]; exact congrArg (fun z => some (HO.dK z)) (mergeK_self (acc := []) (by decide +kernel)), by decide +kernel, fun kv h => by
    rcases List.mem_cons.mp h with z | z
    · rw [z]; exact True.intro
    · rw [List.mem_singleton.mp z]; exact True.intro, fun kv h => by
    rcases List.mem_cons.mp h with z | z
    · rw [z]; decide +kernel
    · rw [List.mem_singleton.mp z]; decide +kernel, (by show 2 ≤ 50; decide)⟩⟩
theorem w_none : WPiece (tC .non) none := fun σ H Q k => k H _ [] (Same.refl _) rfl
theorem w_empty : WPiece (tLst tNil) (some []) := fun σ H Q k => ⟨Nat.zero_le _, fun p hp => k _ _ [] (Same.upd hp) ⟨p, rfl, .inl upd_same, .nil, by decide⟩⟩
theorem w_one {h t : Str} {c : Int} : WPiece (tLst (tCons (tTup (tCons (tC (.str h)) (tCons (tC (.str t)) (tCons (tC (.int c)) tNil)))) tNil)) (some [some (h, t, c)]) := fun σ H Q k =>
  ⟨(by show 3 ≤ sizeLine; decide), fun a ha => ⟨(by show 1 ≤ sizeLine; decide), fun p hp => k _ _ [a] (Same.upd' (Same.upd ha) hp) ⟨p, rfl, .inl upd_same, .cons (by show L2.upd _ p _ a = some (.tup (wtup (h, t, c))); rw [upd_ne (ne_of_none upd_same hp)]; exact upd_same) .nil, (by show 1 ≤ 1000; decide)⟩⟩⟩
theorem w_neg {h t : Str} {c : Int} : WPiece (tLst (tCons (tTup (tCons (tC (.str h)) (tCons (tC (.str t)) (tCons (tNg c) tNil)))) tNil)) (some [some (h, t, -c)]) := fun σ H Q k =>
  ⟨c, rfl, (by show 3 ≤ sizeLine; decide), fun a ha => ⟨(by show 1 ≤ sizeLine; decide), fun p hp => k _ _ [a] (Same.upd' (Same.upd ha) hp) ⟨p, rfl, .inl upd_same, .cons (by show L2.upd _ p _ a = some (.tup (wtup (h, t, -c))); rw [upd_ne (ne_of_none upd_same hp)]; exact upd_same) .nil, (by show 1 ≤ 1000; decide)⟩⟩⟩
theorem w_list {h t : Str} {c : Int} : WPiece (tLst (tCons (tLst (tCons (tC (.str h)) (tCons (tC (.str t)) (tCons (tC (.int c)) tNil)))) tNil)) (some [none]) := fun σ H Q k =>
  ⟨(by show 3 ≤ sizeLine; decide), fun a ha => ⟨(by show 1 ≤ sizeLine; decide), fun p hp => k _ _ [a] (Same.upd' (Same.upd ha) hp) ⟨p, rfl, .inl upd_same, .cons ⟨_, by rw [upd_ne (ne_of_none upd_same hp)]; exact upd_same⟩ .nil, (by show 1 ≤ 1000; decide)⟩⟩⟩
theorem w_two {h t h2 t2 : Str} {c c2 : Int} : WPiece (tLst (tCons (tTup (tCons (tC (.str h)) (tCons (tC (.str t)) (tCons (tC (.int c)) tNil)))) (tCons (tTup (tCons (tC (.str h2)) (tCons (tC (.str t2)) (tCons (tC (.int c2)) tNil)))) tNil))) (some [some (h, t, c), some (h2, t2, c2)]) := fun σ H Q k =>
  ⟨(by show 3 ≤ sizeLine; decide), fun a ha => ⟨(by show 3 ≤ sizeLine; decide), fun b hb => ⟨(by show 2 ≤ sizeLine; decide), fun p hp => k _ _ [a, b] (Same.upd' (Same.upd' (Same.upd ha) hb) hp) ⟨p, rfl, .inl upd_same, .cons (Same.upd hp _ _ (Same.upd hb _ _ upd_same)) (.cons (Same.upd hp _ _ upd_same) .nil), (by show 2 ≤ 1000; decide)⟩⟩⟩⟩
theorem w_rep {h t : Str} {c : Int} : WPiece (tOp rRep (tLst (tCons (tTup (tCons (tC (.str h)) (tCons (tC (.str t)) (tCons (tC (.int c)) tNil)))) tNil)) (tC (.int 41))) (some (List.replicate 41 (some (h, t, c)))) := fun σ H Q k => by
  refine ⟨(by show 3 ≤ sizeLine; decide), fun a ha => ⟨(by show 1 ≤ sizeLine; decide), fun p hp => ?_⟩⟩
  have s2 := Same.upd' (o := .lst [V.ref a]) (Same.upd (o := .tup (wtup (h, t, c))) ha) hp
  refine ⟨p, 41, _, rfl, rfl, upd_same, by decide, by decide, (by show 1 * 41 ≤ sizeLine; decide), fun r hr => ?_⟩
  have sr := Same.upd (o := .lst (List.replicate (41 : Int).toNat [V.ref a]).flatten) hr
  refine k _ _ (List.replicate 41 a) (s2.trans sr) ⟨r, rfl, .inl (upd_same.trans rfl), ?_, (by rw [List.length_replicate]; decide)⟩
  have ha2 := sr _ _ (Same.upd hp _ _ (upd_same (H := H) (a := a) (o := .tup (wtup (h, t, c)))))
  have go : ∀ n : Nat, Paired (fun b o => WItem (L2.upd (L2.upd (L2.upd H a (.tup (wtup (h, t, c)))) p (.lst [V.ref a])) r (.lst (List.replicate (41 : Int).toNat [V.ref a]).flatten)) b o) (List.replicate n a) (List.replicate n (some (h, t, c))) := by
    intro n
    induction n with
    | zero => exact .nil
    | succ n ih => exact .cons ha2 ih
  exact go 41
theorem bad_of {td tw : TE} {D : Option Dl} {W : Option (List (Option WireS))} (hd : DPiece td D) (hw : WPiece tw W) (hb : okPlan D W = false) {σ : L2.St} {H : Hp} {Q : VK} (k : ∀ H' p, Same H H' → BadAt H' p → Q (.ref p) H') : tTup (tCons td (tCons tw tNil)) σ H Q := by
  refine hd σ H _ fun H1 dv s1 h1 => hw σ H1 _ fun H2 wv as s2 h2 => ⟨(by show 2 ≤ sizeLine; decide), fun p hp => ?_⟩
  have s3 := Same.upd (o := .tup [dv, wv]) hp
  exact k _ p ((s1.trans s2).trans s3) ⟨dv, wv, D, as, W, upd_same, h1.mono (s2.trans s3), h2.mono s3, hb⟩
theorem b1 : okPlan (some []) (some []) = false := by decide +kernel
theorem b2 : okPlan (some [("a", .int (-1))]) (some []) = false := by decide +kernel
theorem b3 : okPlan (some [("a", .int 1001)]) (some []) = false := by decide +kernel
theorem b4 : okPlan (some [("A", .int 1)]) (some []) = false := by decide +kernel
theorem b5 : okPlan (some [("a", .bl true)]) (some []) = false := by decide +kernel
theorem b6 : okPlan none (some []) = false := rfl
theorem b7 : okPlan (some [("a", .int 1), ("out", .int 2)]) (some []) = false := by decide +kernel
theorem b8 : okPlan (some [("a", .int 1)]) (some [some ("a", "b", 0)]) = false := by decide +kernel
theorem b9 : okPlan (some [("a", .int 1)]) (some [some ("a", "out", -1)]) = false := by decide +kernel
theorem b10 : okPlan (some [("a", .int 1)]) (some [some ("a", "out", 21)]) = false := by decide +kernel
theorem b11 : okPlan (some [("a", .int 1)]) (some [none]) = false := by decide +kernel
theorem b12 : okPlan (some [("a", .int 1)]) none = false := rfl
theorem b13 : okPlan (some [("a", .int 1)]) (some [some ("a", "a", 0)]) = false := by decide +kernel
theorem b14 : okPlan (some [("a", .int 1)]) (some (List.replicate 41 (some ("a", "out", 0)))) = false := by decide +kernel
theorem g1 : okPlan (some [("a", .int 1)]) (some [some ("out", "a", 0), some ("a", "out", 0)]) = true := by decide +kernel
theorem g2' : beatS (knS [("a", .int 1)]) (dOf [("a", .int 1)]) [("out", "a", 0), ("a", "out", 0)] zeros = some 1 := by decide +kernel
end Bw

/-! #### D16b -/
set_option Elab.async false
set_option linter.all false
set_option maxRecDepth 100000
set_option maxHeartbeats 4000000
namespace Bw
open PySem PySem.Spec PyProof.Rows L2
def BPiece (t : TE) : Prop := ∀ (σ : L2.St) (H : Hp) (Q : VK), (∀ H' p, Same H H' → BadAt H' p → Q (.ref p) H') → t σ H Q
def APiece (t : TA) (n : Nat) : Prop := ∀ (σ : L2.St) (H : Hp) (Q : List V → Hp → Prop), (∀ H' (ps : List Addr), Same H H' → ps.length = n → (∀ p ∈ ps, BadAt H' p) → Q (ps.map V.ref) H') → t σ H Q
theorem bp_of {td tw : TE} {D : Option Dl} {W : Option (List (Option WireS))} (hd : DPiece td D) (hw : WPiece tw W) (hb : okPlan D W = false) : BPiece (tTup (tCons td (tCons tw tNil))) := fun σ H Q k => bad_of hd hw hb k
theorem ap_nil : APiece tNil 0 := fun σ H Q k => k H [] (Same.refl _) rfl fun _ h => nomatch h
theorem ap_cons {t : TE} {ta : TA} {n : Nat} (h : BPiece t) (ha : APiece ta n) : APiece (tCons t ta) (n + 1) := fun σ H Q k => by
  refine h σ H _ fun H1 p s1 b1 => ha σ H1 _ fun H2 ps s2 hl hb => ?_
  refine k H2 (p :: ps) (s1.trans s2) (by rw [List.length_cons, hl]) fun q hq => ?_
  rcases List.mem_cons.mp hq with z | z
  · subst z
    exact b1.mono s2
  · exact hb q z
theorem q1 : BPiece (tTup (tCons (tDNewK) (tCons (tLst tNil) tNil))) := bp_of (D := some []) (W := some []) (d_empty) (w_empty) b1
theorem q2 : BPiece (tTup (tCons (tDisp [(tC (.str "a"), tNg 1)]) (tCons (tLst tNil) tNil))) := bp_of (D := some [("a", .int (-1))]) (W := some []) (d_neg (x := "a") (i := 1) (by decide +kernel)) (w_empty) b2
theorem q3 : BPiece (tTup (tCons (tDisp [(tC (.str "a"), tC (.int 1001))]) (tCons (tLst tNil) tNil))) := bp_of (D := some [("a", .int 1001)]) (W := some []) (d_one (x := "a") (v := .int 1001) True.intro (by decide +kernel)) (w_empty) b3
theorem q4 : BPiece (tTup (tCons (tDisp [(tC (.str "A"), tC (.int 1))]) (tCons (tLst tNil) tNil))) := bp_of (D := some [("A", .int 1)]) (W := some []) (d_one (x := "A") (v := .int 1) True.intro (by decide +kernel)) (w_empty) b4
theorem q5 : BPiece (tTup (tCons (tDisp [(tC (.str "a"), tC (.bl true))]) (tCons (tLst tNil) tNil))) := bp_of (D := some [("a", .bl true)]) (W := some []) (d_one (x := "a") (v := .bl true) True.intro (by decide +kernel)) (w_empty) b5
theorem q6 : BPiece (tTup (tCons (tC .non) (tCons (tLst tNil) tNil))) := bp_of (D := none) (W := some []) (d_none) (w_empty) b6
theorem q7 : BPiece (tTup (tCons (tDisp [(tC (.str "a"), tC (.int 1)), (tC (.str "out"), tC (.int 2))]) (tCons (tLst tNil) tNil))) := bp_of (D := some [("a", .int 1), ("out", .int 2)]) (W := some []) (d_two) (w_empty) b7
theorem q8 : BPiece (tTup (tCons (tDisp [(tC (.str "a"), tC (.int 1))]) (tCons (tLst (tCons (tTup (tCons (tC (.str "a")) (tCons (tC (.str "b")) (tCons (tC (.int 0)) tNil)))) tNil)) tNil))) := bp_of (D := some [("a", .int 1)]) (W := some [some ("a", "b", 0)]) (d_one (x := "a") (v := .int 1) True.intro (by decide +kernel)) (w_one (h := "a") (t := "b") (c := 0)) b8
theorem q9 : BPiece (tTup (tCons (tDisp [(tC (.str "a"), tC (.int 1))]) (tCons (tLst (tCons (tTup (tCons (tC (.str "a")) (tCons (tC (.str "out")) (tCons (tNg 1) tNil)))) tNil)) tNil))) := bp_of (D := some [("a", .int 1)]) (W := some [some ("a", "out", -1)]) (d_one (x := "a") (v := .int 1) True.intro (by decide +kernel)) (w_neg (h := "a") (t := "out") (c := 1)) b9
theorem q10 : BPiece (tTup (tCons (tDisp [(tC (.str "a"), tC (.int 1))]) (tCons (tLst (tCons (tTup (tCons (tC (.str "a")) (tCons (tC (.str "out")) (tCons (tC (.int 21)) tNil)))) tNil)) tNil))) := bp_of (D := some [("a", .int 1)]) (W := some [some ("a", "out", 21)]) (d_one (x := "a") (v := .int 1) True.intro (by decide +kernel)) (w_one (h := "a") (t := "out") (c := 21)) b10
theorem q11 : BPiece (tTup (tCons (tDisp [(tC (.str "a"), tC (.int 1))]) (tCons (tLst (tCons (tLst (tCons (tC (.str "a")) (tCons (tC (.str "out")) (tCons (tC (.int 1)) tNil)))) tNil)) tNil))) := bp_of (D := some [("a", .int 1)]) (W := some [none]) (d_one (x := "a") (v := .int 1) True.intro (by decide +kernel)) (w_list (h := "a") (t := "out") (c := 1)) b11
theorem q12 : BPiece (tTup (tCons (tDisp [(tC (.str "a"), tC (.int 1))]) (tCons (tC .non) tNil))) := bp_of (D := some [("a", .int 1)]) (W := none) (d_one (x := "a") (v := .int 1) True.intro (by decide +kernel)) (w_none) b12
theorem q13 : BPiece (tTup (tCons (tDisp [(tC (.str "a"), tC (.int 1))]) (tCons (tLst (tCons (tTup (tCons (tC (.str "a")) (tCons (tC (.str "a")) (tCons (tC (.int 0)) tNil)))) tNil)) tNil))) := bp_of (D := some [("a", .int 1)]) (W := some [some ("a", "a", 0)]) (d_one (x := "a") (v := .int 1) True.intro (by decide +kernel)) (w_one (h := "a") (t := "a") (c := 0)) b13
theorem q14 : BPiece (tTup (tCons (tDisp [(tC (.str "a"), tC (.int 1))]) (tCons (tOp rRep (tLst (tCons (tTup (tCons (tC (.str "a")) (tCons (tC (.str "out")) (tCons (tC (.int 0)) tNil)))) tNil)) (tC (.int 41))) tNil))) := bp_of (D := some [("a", .int 1)]) (W := some (List.replicate 41 (some ("a", "out", 0)))) (d_one (x := "a") (v := .int 1) True.intro (by decide +kernel)) (w_rep (h := "a") (t := "out") (c := 0)) b14
theorem q_all : APiece (tCons (tTup (tCons (tDNewK) (tCons (tLst tNil) tNil))) (tCons (tTup (tCons (tDisp [(tC (.str "a"), tNg 1)]) (tCons (tLst tNil) tNil))) (tCons (tTup (tCons (tDisp [(tC (.str "a"), tC (.int 1001))]) (tCons (tLst tNil) tNil))) (tCons (tTup (tCons (tDisp [(tC (.str "A"), tC (.int 1))]) (tCons (tLst tNil) tNil))) (tCons (tTup (tCons (tDisp [(tC (.str "a"), tC (.bl true))]) (tCons (tLst tNil) tNil))) (tCons (tTup (tCons (tC .non) (tCons (tLst tNil) tNil))) (tCons (tTup (tCons (tDisp [(tC (.str "a"), tC (.int 1)), (tC (.str "out"), tC (.int 2))]) (tCons (tLst tNil) tNil))) (tCons (tTup (tCons (tDisp [(tC (.str "a"), tC (.int 1))]) (tCons (tLst (tCons (tTup (tCons (tC (.str "a")) (tCons (tC (.str "b")) (tCons (tC (.int 0)) tNil)))) tNil)) tNil))) (tCons (tTup (tCons (tDisp [(tC (.str "a"), tC (.int 1))]) (tCons (tLst (tCons (tTup (tCons (tC (.str "a")) (tCons (tC (.str "out")) (tCons (tNg 1) tNil)))) tNil)) tNil))) (tCons (tTup (tCons (tDisp [(tC (.str "a"), tC (.int 1))]) (tCons (tLst (tCons (tTup (tCons (tC (.str "a")) (tCons (tC (.str "out")) (tCons (tC (.int 21)) tNil)))) tNil)) tNil))) (tCons (tTup (tCons (tDisp [(tC (.str "a"), tC (.int 1))]) (tCons (tLst (tCons (tLst (tCons (tC (.str "a")) (tCons (tC (.str "out")) (tCons (tC (.int 1)) tNil)))) tNil)) tNil))) (tCons (tTup (tCons (tDisp [(tC (.str "a"), tC (.int 1))]) (tCons (tC .non) tNil))) (tCons (tTup (tCons (tDisp [(tC (.str "a"), tC (.int 1))]) (tCons (tLst (tCons (tTup (tCons (tC (.str "a")) (tCons (tC (.str "a")) (tCons (tC (.int 0)) tNil)))) tNil)) tNil))) (tCons (tTup (tCons (tDisp [(tC (.str "a"), tC (.int 1))]) (tCons (tOp rRep (tLst (tCons (tTup (tCons (tC (.str "a")) (tCons (tC (.str "out")) (tCons (tC (.int 0)) tNil)))) tNil)) (tC (.int 41))) tNil))) (tNil))))))))))))))) 14 := ap_cons q1 (ap_cons q2 (ap_cons q3 (ap_cons q4 (ap_cons q5 (ap_cons q6 (ap_cons q7 (ap_cons q8 (ap_cons q9 (ap_cons q10 (ap_cons q11 (ap_cons q12 (ap_cons q13 (ap_cons q14 (ap_nil))))))))))))))
theorem ap_tup {ta : TA} {n : Nat} (h : APiece ta n) (hn : n ≤ sizeLine) {K : PySem.W.Frag} {σ : L2.St} {H : Hp} {R : It → Hp → Prop} (k : ∀ H' t (ps : List Addr), Same H H' → H' t = some (.tup (ps.map V.ref)) → (∀ p ∈ ps, BadAt H' p) → R (Itt K t) H') : iTup K (tTup ta) σ H R := by
  refine h σ H _ fun H' ps s' hl hbad => ⟨(by rw [List.length_map, hl]; exact hn), fun t ht => ?_⟩
  have st := Same.upd (o := .tup (ps.map V.ref)) ht
  exact ⟨t, rfl, ⟨_, SqT.of upd_same⟩, k _ t ps (s'.trans st) upd_same fun p hp => (hbad p hp).mono st⟩
theorem make_of {C : Addr} {sp : Sp} {E : XK} {td tw : TE} {D : Option Dl} {W : Option (List (Option WireS))} (hd : DPiece td D) (hw : WPiece tw W) {σ : L2.St} {H : Hp} {Q : VK}
    (k : ∀ H' dv wv as, Same H H' → DelAt H' dv D → WirAt H' wv as W → ∀ x dx, H' x = none → H' dx = none → dx ≠ x → sp (.ref x :: ([dv, wv] ++ [])) (L2.upd (L2.upd H' dx (.own x)) x (.ins C dx [])) (fun v H2 => v = .non ∧ Q (.ref x) H2) E) :
    tMake C sp [] E (tCons td (tCons tw tNil)) σ H Q :=
  hd σ H _ fun H1 dv s1 h1 => hw σ H1 _ fun H2 wv as s2 h2 => k H2 dv wv as (s1.trans s2) (h1.mono s2) h2
end Bw

/-! #### D17 -/
set_option Elab.async false
set_option linter.all false
set_option maxRecDepth 100000
set_option maxHeartbeats 8000000
namespace Bw
open PySem PySem.Spec PyProof.Rows L2
section
variable {P : Program} {w : World} {K : PySem.W.Frag} {mg : Str → Option Value} {base : Heap}
def spLaw (K : PySem.W.Frag) : Sp := fun vs H Q _ => ∃ a, vs = [.ref a] ∧ ScrAt K H a ∧ ∀ H', Q (.bl true) H'
abbrev nLaw : List Str := ["_law_script", "_law_delays", "_law_wires", "_law_plain", "_law_plan_here", "_law_turn", "_law_moves", "_law_some", "_law_beat_here", "_law_one", "_law_other", "_law_name", "_law_spot", "_law_here", "_law_there", "_law_count"]
theorem scLaw : FnScope nLaw ["_law_script"] (defScope sLaw) := ⟨rfl, rfl, rfl, by decide +kernel, rfl, by decide +kernel, by decide +kernel⟩
theorem okPlan_law {ns : List Str} {d : Str → Int} {ws : List WireS} (h0 : ∀ k, k ∉ ns → d k = 0) (ho : ("out" : Str) ∉ ns) : okPlan (some (dlOf ns d)) (some (ws.map some)) = (okD (dlOf ns d) && okW (ns ++ [("out" : Str)]) (ws.map some) && (beatS (ns ++ [("out" : Str)]) d ws fun _ => 0).isSome) := by
  show (okD (dlOf ns d) && okW (knS (dlOf ns d)) (ws.map some) && (beatS (knS (dlOf ns d)) (dOf (dlOf ns d)) (wsOf (ws.map some)) zeros).isSome) = _
  rw [knS_dlOf ho, wsOf_some, show dOf (dlOf ns d) = d from funext (dlOf_d h0)]
  rfl
theorem items_xs {H : Hp} {d : Str → Int} : ∀ {ns : List Str} {ts : List Addr}, Paired (fun (t : Addr) (q : Key × V) => H t = some (.tup [kV q.1, q.2])) ts (DI ns d) → ∃ xs : List (Addr × Str × Int), xs.map (·.1) = ts ∧ xs.map (fun y => y.2.1) = ns ∧ ∀ y ∈ xs, H y.1 = some (.tup [.str y.2.1, .int y.2.2])
  | [], _, .nil => ⟨[], rfl, rfl, fun _ h => nomatch h⟩
  | k :: ns, _, @Paired.cons _ _ _ t _ ts _ h r => by
    obtain ⟨xs, e1, e2, e3⟩ := items_xs (ns := ns) r
    refine ⟨(t, k, d k) :: xs, by rw [List.map_cons, e1], by rw [List.map_cons, e2], fun y hy => ?_⟩
    rcases List.mem_cons.mp hy with z | z
    · subst z
      exact h
    · exact e3 y z
theorem DI_keys {ks : List Str} {d : Str → Int} : ((DI ks d).map fun kv => kV kv.1) = ks.map V.str := by
  unfold DI
  rw [List.map_map]
  rfl
theorem okPlan_rev {ns : List Str} {d : Str → Int} {ws : List WireS} (h0 : ∀ k, k ∉ ns → d k = 0) (ho : ("out" : Str) ∉ ns) (h1 : okPlan (some (dlOf ns d)) (some (ws.map some)) = true) : okPlan (some (dlOf ns.reverse d)) (some (ws.map some)) = true := by
  rw [okPlan_law h0 ho] at h1
  rw [okPlan_law (fun k hk => h0 k fun z => hk (List.mem_reverse.mpr z)) (fun z => ho (List.mem_reverse.mp z))]
  have hp : (ns.reverse ++ [("out" : Str)]).Perm (ns ++ [("out" : Str)]) := List.Perm.append_right _ (List.reverse_perm _)
  rw [beat_perm hp]
  have e1 : okD (dlOf ns.reverse d) = okD (dlOf ns d) := by
    unfold okD
    have hr : dlOf ns.reverse d = (dlOf ns d).reverse := by unfold dlOf; rw [List.map_reverse]
    have hd0 : dOf (dlOf ns.reverse d) "out" = dOf (dlOf ns d) "out" := by
      rw [dlOf_d (fun k hk => h0 k fun z => hk (List.mem_reverse.mpr z)), dlOf_d h0]
    rw [hd0, hr, List.length_reverse, List.all_reverse, List.all_reverse]
  have e2 : okW (ns.reverse ++ [("out" : Str)]) (ws.map some) = okW (ns ++ [("out" : Str)]) (ws.map some) := by
    unfold okW
    congr 1
    congr 1
    funext o
    cases o with
    | none => rfl
    | some w =>
      rw [okWire_some, okWire_some]
      rw [decide_eq_decide.mpr (hp.mem_iff (a := w.1)), decide_eq_decide.mpr (hp.mem_iff (a := w.2.1))]
  rw [e1, e2]
  exact h1
theorem okPlan_more {ns : List Str} {d : Str → Int} {ws : List WireS} (h0 : ∀ k, k ∉ ns → d k = 0) (ho : ("out" : Str) ∉ ns) (ha : ("a" : Str) ∈ ns) (hl : ws.length ≤ 9) (h1 : okPlan (some (dlOf ns d)) (some (ws.map some)) = true) : okPlan (some (dlOf ns d)) (some ((ws ++ [(("out" : Str), ("a" : Str), (1 : Int))]).map some)) = true := by
  rw [okPlan_law h0 ho] at h1 ⊢
  have eb : beatS (ns ++ [("out" : Str)]) d (ws ++ [(("out" : Str), ("a" : Str), (1 : Int))]) (fun _ => 0) = beatS (ns ++ [("out" : Str)]) d ws (fun _ => 0) := beat_more (by show (0 : Int) < 1; decide)
  rw [eb]
  rw [Bool.and_eq_true, Bool.and_eq_true] at h1 ⊢
  refine ⟨⟨h1.1.1, ?_⟩, h1.2⟩
  have h2 := h1.1.2
  unfold okW at h2 ⊢
  rw [Bool.and_eq_true] at h2 ⊢
  refine ⟨decide_eq_true (by rw [List.length_map, List.length_append, List.length_singleton]; omega), ?_⟩
  rw [List.map_append, List.all_append, h2.2]
  show (true && (okWire _ (some (("out" : Str), ("a" : Str), (1 : Int))) && true)) = true
  rw [okWire_some, decide_eq_true (List.mem_append_right ns (List.mem_cons_self (a := ("out" : Str)))), decide_eq_true (List.mem_append_left [("out" : Str)] ha)]
  rfl
theorem moves_merge (es : List (Str × Int)) : ∃ mv : Str → Int, ∀ k, (valV (mergeK [] (es.map fun e => ((Sum.inr e.1 : Key), V.int e.2))) (Sum.inr k)).getD (.int 0) = .int (mv k) := by
  have go : ∀ (es : List (Str × Int)) (acc : List (Key × V)), (∀ k, ∃ i, (valV acc k).getD (.int 0) = V.int i) → ∀ k, ∃ i, (valV (mergeK acc (es.map fun e => ((Sum.inr e.1 : Key), V.int e.2))) k).getD (.int 0) = V.int i := by
    intro es
    induction es with
    | nil => intro acc h; exact h
    | cons e r ih =>
      intro acc h
      refine ih _ fun k => ?_
      rw [valV_put]
      by_cases z : k = Sum.inr e.1
      · rw [if_pos z]
        exact ⟨e.2, rfl⟩
      · rw [if_neg z]
        exact h k
  have h := go es [] fun k => ⟨0, rfl⟩
  exact ⟨fun k => (h (Sum.inr k)).choose, fun k => (h (Sum.inr k)).choose_spec⟩
theorem scal_opt (o : Option Int) : scal (optV o) (optV o) = true := by
  cases o <;> rfl
theorem xs_len3 (K : PySem.W.Frag) (t : Addr) (i : Int) : Walk (Itt K t) 3 (fun H => SqT K H t [V.int i, V.int (-1), V.non]) (YAt [V.int i, V.int (-1), V.non]) := walk_tup (xs := [V.int i, V.int (-1), V.non])
theorem pot_of {ks : List Str} {d : Str → Int} {ws : List WireS} {b : Int} (ho : ("out" : Str) ∈ ks) (hk : ks.length ≤ 6) (hd : ∀ k, 0 ≤ d k ∧ d k ≤ 5) (hdo : d ("out" : Str) = 0) (hwl : ws.length ≤ 9) (hw : ∀ w ∈ ws, 0 ≤ w.2.2 ∧ w.2.2 ≤ 2 ∧ w.1 ∈ ks ∧ w.2.1 ∈ ks) (hb : beatS ks d ws (fun _ => 0) = some b) :
    ∃ L, Pot ks d L ws b := by
  have he : ∀ w ∈ ws, w.1 ∈ ks ∧ w.2.1 ∈ ks := fun w h => (hw w h).2.2
  obtain ⟨L, h1, h2, h3, h4⟩ := beat_pot ho he hb
  have hb5 := beat_le (B := 5) ho he (by decide) (fun k => (hd k).2) hb
  have h0 := h1 ("out" : Str)
  have h0' := h2 _ ho
  refine ⟨L, ⟨by omega, by omega, h2, fun k => (hd k).1, h1, hk, ho, hdo, by omega, fun w h => ⟨(he w h).1, (he w h).2, (hw w h).1, (hw w h).2.1⟩, fun w h hz hn => h3 w h ?_ hn⟩⟩
  show w.2.2 + 0 - 0 = 0
  omega
/-- what the law calls -/
structure LCalls (P : Program) (w : World) (K : PySem.W.Frag) (mg : Str → Option Value) (base : Heap) (C CB CN fD fLP fLB fLR fI fB fR fE fW : Addr) (dD dLP dLB dLR dI dB dR dE dW : FuncData) : Prop where
  B : Bt mg
  T : PTxt K C
  I : ITxt K mg C
  XB : XTxt K mg "BadPlan" CB
  XN : XTxt K mg "NoPlacing" CN
  M : Mk K C fI
  gD : FnOk P w K mg base CX0 1 fD dD ["_law_script", "_law_at", "_law_many"] (spDraw K)
  bD : Binds K dD ["_law_script", "_law_at", "_law_many"] []
  mD : mg "_law_draw" = some (.ref fD)
  kD : PySem.W.keepIn K (.ref fD) = true
  gLP : FnOk P w K mg base CX0 2 fLP dLP ["_law_script", "_law_at"] (spLPlan K)
  bLP : Binds K dLP ["_law_script", "_law_at"] []
  mLP : mg "_law_plan" = some (.ref fLP)
  kLP : PySem.W.keepIn K (.ref fLP) = true
  gLB : FnOk P w K mg base CX0 2 fLB dLB ["_law_delays", "_law_wires", "_law_moves"] (spLBeat K)
  bLB : Binds K dLB ["_law_delays", "_law_wires", "_law_moves"] []
  mLB : mg "_law_beat" = some (.ref fLB)
  kLB : PySem.W.keepIn K (.ref fLB) = true
  gLR : FnOk P w K mg base CX0 5 fLR dLR ["_law_delays", "_law_wires"] spLRefused
  bLR : Binds K dLR ["_law_delays", "_law_wires"] []
  mLR : mg "_law_refused" = some (.ref fLR)
  kLR : PySem.W.keepIn K (.ref fLR) = true
  gI : FnOk P w K mg base (L2.CX P w) 3 fI dI ["self", "delays", "wires"] (spPInit C CB)
  bI : Binds K dI ["self", "delays", "wires"] []
  gB : FnOk P w K mg base CX0 2 fB dB ["self", "moves"] (spBeat C)
  bB : Binds K dB ["self", "moves"] []
  mB : Meth K C "beat" fB
  gR : FnOk P w K mg base CX0 1 fR dR ["self", "moves"] (spRegs C)
  bR : Binds K dR ["self", "moves"] []
  mR : Meth K C "registers" fR
  gE : FnOk P w K mg base CX0 1 fE dE ["self", "other"] (spEq C)
  bE : Binds K dE ["self", "other"] []
  eq_ : PySem.W.findIn K (.ref C) "__eq__" = some (some (.ref fE))
  eqf : PySem.W.isFn K (.ref fE) = true
  ne_ : PySem.W.findIn K (.ref C) "__ne__" = some (some (.builtin "object.__ne__"))
  ob_ : PySem.W.subIn K (.ref C) (.type "object") = some true
  gW : FnOk P w K mg base (L2.CX P w) 4 fW dW ["plan", "beat"] (spWithBeat C CB CN)
  bW : Binds K dW ["plan", "beat"] []
  mW : mg "with_beat" = some (.ref fW)
  kW : PySem.W.keepIn K (.ref fW) = true
theorem ok_law {f C CB CN fD fLP fLB fLR fI fB fR fE fW : Addr} {fd dD dLP dLB dLR dI dB dR dE dW : FuncData} (F : Fun K "law" "law" sLaw f fd) (Z : LCalls P w K mg base C CB CN fD fLP fLB fLR fI fB fR fE fW dD dLP dLB dLR dI dB dR dE dW) :
    FnOk P w K mg base CX0 6 f fd ["_law_script"] (spLaw K) := by
  obtain ⟨B, T, I, XB, XN, M, gD, bD, mD, kD, gLP, bLP, mLP, kLP, gLB, bLB, mLB, kLB, gLR, bLR, mLR, kLR, gI, bI, gB, bB, mB, gR, bR, mR, gE, bE, eq_, eqf, ne_, ob_, gW, bW, mW, kW⟩ := Z
  refine F.ok scLaw (fun vs H Q E h => ?_) (fun cdv A outer s H vs Q E hr h => ?_)
  · obtain ⟨a, rfl, _⟩ := h
    rfl
  · obtain ⟨a, rfl, hS, k⟩ := h
    have hu := hu_of hr
    have hu1 := Nat.lt_of_succ_lt hu
    have hu64 := hr.units
    have hr1 : Room 1 _ := hr.mono (by decide)
    have hr2 : Room 2 _ := hr.mono (by decide)
    have hr4 : Room 4 _ := hr.mono (by decide)
    refine ⟨_, pss_cons (ps_asg (pe_call gLP hr2 (by rfl) mLP kLP bLP .nil pass0 (pa_cons (pv 0) (pa_cons pe_int pa_nil))) (pg_tup rfl (pgs_cons (pg_name (i := 1) scLaw.nd rfl (Or.inl rfl)) (pgs_cons (pg_name (i := 2) scLaw.nd rfl (Or.inl rfl)) pgs_nil))))
      (pss_cons (ps_set (i := 3) scLaw.nd rfl (Or.inl rfl) (pe_call gLB hr2 (by rfl) mLB kLB bLB .nil pass0 (pa_cons (pv 1) (pa_cons (pv 2) (pa_cons pe_dnewK pa_nil)))))
      (pss_cons (ps_if (pt_cmp (pc_isN (pv 3))) (pss_one (ps_ret (pe_call gLR hr (by rfl) mLR kLR bLR .nil pass0 (pa_cons (pv 1) (pa_cons (pv 2) pa_nil))))) pss_nil)
      (pss_cons (ps_set (i := 4) scLaw.nd rfl (Or.inl rfl) (pe_make M gI hr4 (by rfl) I.mgC bI .nil passL (pa_cons (pv 1) (pa_cons (pv 2) pa_nil))))
      (pss_cons (ps_if (pw_or (pt_cmpR (op_ne_dictA hu1) (pe_fld (pv 4) rfl) (pe_callTy (call_dictP rfl) (by rfl) B.dict (by decide +kernel) (pa_cons (pe_callB (cr_sortTI hu64) (by rfl) B.sorted (by decide +kernel) (pa_cons (pe_op op_cat (LiI.pe_listItems rfl (pv 1) (by rfl) B.list (by decide +kernel)) (pe_lst (pa_cons (pe_tup (pa_cons pe_str (pa_cons pe_int pa_nil))) pa_nil))) pa_nil)) pa_nil)) (nomark _))
          (pw_or (pt_cmpR (op_neSameL hu1) (pe_callTy (call_listD rfl) (by rfl) B.list (by decide +kernel) (pa_cons (pe_fld (pv 4) rfl) pa_nil)) (pe_callB cr_sortedS (by rfl) B.sorted (by decide +kernel) (pa_cons (pe_op op_cat (pe_callTy (call_listD rfl) (by rfl) B.list (by decide +kernel) (pa_cons (pv 1) pa_nil)) (pe_lst (pa_cons pe_str pa_nil))) pa_nil)) (nomark _))
          (pw_or1 (pt_cmpR (op_neSame hu1) (pe_fld (pv 4) rfl) (pe_callTy call_tuple_of (by rfl) B.tuple (by decide +kernel) (pa_cons (pv 2) pa_nil)) (nomark _))))).pt (pss_one (ps_ret pe_bl)) pss_nil)
      (pss_cons (ps_if (pw_or (pt_cmpR op_ne (pe_meth (pv 4) T.cl mB gB hr2 bB .nil pass0 (pa_cons pe_dnewK pa_nil)) (pv 3) (nomark _))
          (pw_or (pt_cmpR (op_ownNe gE hr2 eq_ eqf ne_ ob_ bE pass0) (pv 4) (pe_make M gI hr4 (by rfl) I.mgC bI .nil passL (pa_cons (pe_dictRev rfl (LiI.pe_listItems rfl (pv 1) (by rfl) B.list (by decide +kernel)) (by rfl) B.dict (by rfl) B.reversed) (pa_cons (pe_callTy call_tuple_of (by rfl) B.tuple (by decide +kernel) (pa_cons (pv 2) pa_nil)) pa_nil))) (nomark _))
          (pw_or1 (pt_cmpR (op_ownEq gE hr1 eq_ eqf bE pass0) (pv 4) (pe_make M gI hr4 (by rfl) I.mgC bI .nil passL (pa_cons (pv 1) (pa_cons (pe_op op_cat (pe_callTy call_list_of (by rfl) B.list (by decide +kernel) (pa_cons (pv 2) pa_nil)) (pe_lst (pa_cons (pe_tup (pa_cons pe_str (pa_cons pe_str (pa_cons pe_int pa_nil)))) pa_nil))) pa_nil))) (nomark _))))).pt (pss_one (ps_ret pe_bl)) pss_nil)
      (Evl.pss_cut (ps_for PassesOwn.never rfl (pi_range1 (by rfl) B.range (pa_cons pe_int pa_nil)) (pg_name (i := 5) scLaw.nd rfl (Or.inr rfl))
        (pss_cons (ps_set (i := 6) scLaw.nd rfl (Or.inr rfl) (pe_callTy (call_dictP rfl) (by rfl) B.dict (by decide +kernel) (pa_cons (pe_lc (own := [("_law_spot", 12), ("_law_name", 11)]) (g := g2 K 12 11)
              (tt := tTest (tOp (rI0 fun i j => .bl (decide (j < i))) (tCall (spDraw K) [] E0 (tCons (tVar 0) (tCons (tOp (rI0 fun i j => .int (i + j)) (tOp (rI0 fun i j => .int (i + j)) (tC (.int 200)) (tOp (rI CMul fun i j => .int (i * j)) (tC (.int 10)) (tVar 5))) (tVar 12)) (tCons (tC (.int 4)) tNil)))) (tC (.int 0))))
              (te := tTup (tCons (tVar 11) (tCons (tOp (rI0 fun i j => .int (i - j)) (tCall (spDraw K) [] E0 (tCons (tVar 0) (tCons (tOp (rI0 fun i j => .int (i + j)) (tOp (rI0 fun i j => .int (i + j)) (tC (.int 100)) (tOp (rI CMul fun i j => .int (i * j)) (tC (.int 10)) (tVar 5))) (tVar 12)) (tCons (tC (.int 5)) tNil)))) (tC (.int 2))) tNil)))
              rfl scLaw.nd (pi_enum (by rfl) B.enumerate (pa_cons (pe_op op_cat (pe_callTy (call_listD rfl) (by rfl) B.list (by decide +kernel) (pa_cons (pv 1) pa_nil)) (pe_lst (pa_cons pe_str pa_nil))) pa_nil)) (blkOk_by (N := nLaw) (sc := defScope sLaw) (by decide +kernel))
            (fun _ _ _ _ _ => by exact pg_tup rfl (pgs_cons (pg_name (i := 12) scLaw.nd rfl (Or.inl rfl)) (pgs_cons (pg_name (i := 11) scLaw.nd rfl (Or.inl rfl)) pgs_nil)))
            (fun _ _ _ _ _ => by refine pts_one (pt_cmpR op_gt (pe_call gD hr1 (by rfl) mD kD bD .nil pass0 ?_) pe_int (nomark _)); exact pa_cons (pv 0) (pa_cons (pe_op op_add (pe_op op_add pe_int (pe_op op_mul pe_int (pv 5))) (pv 12)) (pa_cons pe_int pa_nil)))
            (fun _ _ _ _ _ => by refine pe_tup (pa_cons (pv 11) (pa_cons (pe_op op_sub (pe_call gD hr1 (by rfl) mD kD bD .nil pass0 ?_) pe_int) pa_nil)); exact pa_cons (pv 0) (pa_cons (pe_op op_add (pe_op op_add pe_int (pe_op op_mul pe_int (pv 5))) (pv 12)) (pa_cons pe_int pa_nil)))) pa_nil)))
        (pss_cons (ps_if (pt_cmpR (op_neSameL hu1) (pe_meth (pv 4) T.cl mR gR hr1 bR .nil pass0 (pa_cons (pv 6) pa_nil)) (pe_lc (own := [("_law_here", 13), ("_law_there", 14), ("_law_count", 15)]) (g := g3 K 13 14 15) (tt := tYes) rfl scLaw.nd (pi_list (pv 2)) (blkOk_by (N := nLaw) (sc := defScope sLaw) (by decide +kernel))
            (fun _ _ _ _ _ => by exact pg_tup rfl (pgs_cons (pg_name (i := 13) scLaw.nd rfl (Or.inl rfl)) (pgs_cons (pg_name (i := 14) scLaw.nd rfl (Or.inl rfl)) (pgs_cons (pg_name (i := 15) scLaw.nd rfl (Or.inl rfl)) pgs_nil))))
            (fun _ _ _ _ _ => pts_nil)
            (fun _ _ _ _ _ => pe_op op_sub (pe_op op_add (pv 15) (pe_dget2 hu (pv 6) (pv 14) pe_int ⟨rfl, rfl, rfl, rfl⟩)) (pe_dget2 hu (pv 6) (pv 13) pe_int ⟨rfl, rfl, rfl, rfl⟩))) (nomark _)) (pss_one (ps_ret pe_bl)) pss_nil)
        (pss_one (ps_if (pt_cmpR op_ne (pe_meth (pv 4) T.cl mB gB hr2 bB .nil pass0 (pa_cons (pv 6) pa_nil)) (pe_call gLB hr2 (by rfl) mLB kLB bLB .nil pass0 (pa_cons (pv 1) (pa_cons (pv 2) (pa_cons (pv 6) pa_nil)))) (nomark _)) (pss_one (ps_ret pe_bl)) pss_nil)))))
      (pss_cons (ps_set (i := 7) scLaw.nd rfl (Or.inl rfl) (pe_call gW hr4 (by rfl) mW kW bW .nil passL (pa_cons (pv 4) (pa_cons (pv 3) pa_nil))))
      (pss_cons (ps_if (pw_or (pt_cmp (pc_isN (pe_meth (pv 4) T.cl mB gB hr2 bB .nil pass0 (pa_cons (pv 7) pa_nil)))) (pw_or1 (pt_cmpR op_gt (pe_meth (pv 4) T.cl mB gB hr2 bB .nil pass0 (pa_cons (pv 7) pa_nil)) (pv 3) (nomark _)))).pt (pss_one (ps_ret pe_bl)) pss_nil)
      (Evl.pss_cut (ps_for PassesOwn.never rfl (pi_tup (pe_tup (pa_cons (pe_op op_sub (pe_callB (cr_max rfl) (by rfl) B.max (by decide +kernel) (pa_cons (pe_listVals rfl (by rfl) B.list (pv 1)) pa_nil)) pe_int) (pa_cons (pe_un un_neg pe_int) (pa_cons pe_non pa_nil))))) (pg_name (i := 8) scLaw.nd rfl (Or.inl rfl))
        (pss_one (ps_try_only rfl rfl (by exact ⟨rfl, by decide, .inl XN.mgx⟩) takes0 (fun W pn xe tk _ => pss_cons (ps_expr (pe_callS gW hr4 (by rfl) mW kW bW (fun σ => passAt tk σ) (pa_cons (pv 4) (pa_cons (pv 8) pa_nil)))) (pss_one (ps_ret pe_bl))) (fun a oe cls d pn _ _ => pss_one ps_pass))))
      (Evl.pss_cut (ps_try_only rfl rfl (by exact ⟨rfl, by decide, .inl XB.mgx⟩) takes0 (fun W pn xe tk _ => pss_cons (ps_expr (pe_callS gW hr4 (by rfl) mW kW bW (fun σ => passAt tk σ) (pa_cons pe_int (pa_cons pe_int pa_nil)))) (pss_one (ps_ret pe_bl))) (fun a oe cls d pn _ _ => pss_one ps_pass))
      (Evl.pss_cut (ps_for PassesOwn.never rfl (pi_tup (pe_tup (
          pa_cons (pe_tup (pa_cons pe_dnewK (pa_cons (pe_lst pa_nil) pa_nil)))
          (pa_cons (pe_tup (pa_cons (pe_disp (pps_cons pe_str (pe_un un_neg pe_int) pps_nil) rfl rfl (fun z => nomatch z) (by decide)) (pa_cons (pe_lst pa_nil) pa_nil)))
          (pa_cons (pe_tup (pa_cons (pe_disp (pps_cons pe_str pe_int pps_nil) rfl rfl (fun z => nomatch z) (by decide)) (pa_cons (pe_lst pa_nil) pa_nil)))
          (pa_cons (pe_tup (pa_cons (pe_disp (pps_cons pe_str pe_int pps_nil) rfl rfl (fun z => nomatch z) (by decide)) (pa_cons (pe_lst pa_nil) pa_nil)))
          (pa_cons (pe_tup (pa_cons (pe_disp (pps_cons pe_str pe_bl pps_nil) rfl rfl (fun z => nomatch z) (by decide)) (pa_cons (pe_lst pa_nil) pa_nil)))
          (pa_cons (pe_tup (pa_cons pe_non (pa_cons (pe_lst pa_nil) pa_nil)))
          (pa_cons (pe_tup (pa_cons (pe_disp (pps_cons pe_str pe_int (pps_cons pe_str pe_int pps_nil)) rfl rfl (fun z => nomatch z) (by decide)) (pa_cons (pe_lst pa_nil) pa_nil)))
          (pa_cons (pe_tup (pa_cons (pe_disp (pps_cons pe_str pe_int pps_nil) rfl rfl (fun z => nomatch z) (by decide)) (pa_cons (pe_lst (pa_cons (pe_tup (pa_cons pe_str (pa_cons pe_str (pa_cons pe_int pa_nil)))) pa_nil)) pa_nil)))
          (pa_cons (pe_tup (pa_cons (pe_disp (pps_cons pe_str pe_int pps_nil) rfl rfl (fun z => nomatch z) (by decide)) (pa_cons (pe_lst (pa_cons (pe_tup (pa_cons pe_str (pa_cons pe_str (pa_cons (pe_un un_neg pe_int) pa_nil)))) pa_nil)) pa_nil)))
          (pa_cons (pe_tup (pa_cons (pe_disp (pps_cons pe_str pe_int pps_nil) rfl rfl (fun z => nomatch z) (by decide)) (pa_cons (pe_lst (pa_cons (pe_tup (pa_cons pe_str (pa_cons pe_str (pa_cons pe_int pa_nil)))) pa_nil)) pa_nil)))
          (pa_cons (pe_tup (pa_cons (pe_disp (pps_cons pe_str pe_int pps_nil) rfl rfl (fun z => nomatch z) (by decide)) (pa_cons (pe_lst (pa_cons (pe_lst (pa_cons pe_str (pa_cons pe_str (pa_cons pe_int pa_nil)))) pa_nil)) pa_nil)))
          (pa_cons (pe_tup (pa_cons (pe_disp (pps_cons pe_str pe_int pps_nil) rfl rfl (fun z => nomatch z) (by decide)) (pa_cons pe_non pa_nil)))
          (pa_cons (pe_tup (pa_cons (pe_disp (pps_cons pe_str pe_int pps_nil) rfl rfl (fun z => nomatch z) (by decide)) (pa_cons (pe_lst (pa_cons (pe_tup (pa_cons pe_str (pa_cons pe_str (pa_cons pe_int pa_nil)))) pa_nil)) pa_nil)))
          (pa_cons (pe_tup (pa_cons (pe_disp (pps_cons pe_str pe_int pps_nil) rfl rfl (fun z => nomatch z) (by decide)) (pa_cons (pe_op op_rep (pe_lst (pa_cons (pe_tup (pa_cons pe_str (pa_cons pe_str (pa_cons pe_int pa_nil)))) pa_nil)) pe_int) pa_nil))) pa_nil))))))))))))))))
          (pg_tup rfl (pgs_cons (pg_name (i := 9) scLaw.nd rfl (Or.inl rfl)) (pgs_cons (pg_name (i := 10) scLaw.nd rfl (Or.inl rfl)) pgs_nil)))
        (pss_one (ps_if (pt_not (pt_val (pe_call gLR hr (by rfl) mLR kLR bLR .nil pass0 (pa_cons (pv 9) (pa_cons (pv 10) pa_nil))))) (pss_one (ps_ret pe_bl)) pss_nil)))
      (pss_one (ps_ret (pe_cmpR op_eq (pe_meth (pe_make M gI hr4 (by rfl) I.mgC bI .nil passL (pa_cons (pe_disp (pps_cons pe_str pe_int pps_nil) rfl rfl (fun z => nomatch z) (by decide)) (pa_cons (pe_lst (pa_cons (pe_tup (pa_cons pe_str (pa_cons pe_str (pa_cons pe_int pa_nil)))) (pa_cons (pe_tup (pa_cons pe_str (pa_cons pe_str (pa_cons pe_int pa_nil)))) pa_nil))) pa_nil))) T.cl mB gB hr2 bB .nil pass0 (pa_cons pe_dnewK pa_nil)) pe_int (nomark _))))))))))))))), ?_⟩
    refine ⟨_, rfl, a, 0, rfl, hS, Int.le_refl _, by decide, fun H1 t dl wl n d as ws s1 ht hdl0 hdl hwl0 hwl hW hn2 hn5 hd0 hdb hwsl hgood => ?_⟩
    obtain ⟨hnd, hnl, htl, hts⟩ := nmS_facts n hn2 hn5
    have hrise := nmS_rise n hn2 hn5
    obtain ⟨hwords, ha_, hno, hshort⟩ := nmS_words n hn2 hn5
    clear htl hts
    generalize hns : nmS n = ns at *
    have hns1 : ns.Nodup := (List.nodup_append.mp hnd).1
    have hdo : d ("out" : Str) = 0 := hd0 _ hno
    have hends : ∀ w ∈ ws, w.1 ∈ ns ++ [("out" : Str)] ∧ w.2.1 ∈ ns ++ [("out" : Str)] := fun w hw => ⟨(hgood w hw).2.2.1, (hgood w hw).2.2.2⟩
    have hout : ("out" : Str) ∈ ns ++ [("out" : Str)] := List.mem_append_right _ List.mem_cons_self
    have hkl : (ns ++ [("out" : Str)]).length ≤ 6 := by rw [List.length_append, List.length_singleton]; omega
    refine ⟨t, _, rfl, SqT.of ht, rfl, _, _, rfl, _, _, rfl, rfl, ?_⟩
    refine ⟨_, rfl, _, rfl, fun m hm => ?_⟩
    have s2 := Same.upd (o := .dK []) hm
    have hm2 : MovesAt (L2.upd H1 m (.dK [])) m fun _ => 0 := MovesAt.nil upd_same
    generalize L2.upd H1 m (.dK []) = H2 at *
    refine ⟨dl, wl, m, ns, d, as, ws, fun _ => 0, rfl, s2 _ _ hdl, SqL.of (s2 _ _ hwl), hW.mono s2, hm2, by omega, by omega, hnd, hdo, hends, fun H3 s3 => ?_⟩
    have s23 := s2.trans s3
    have hdl3 := s23 _ _ hdl
    have hwl3 := s23 _ _ hwl
    have hW3 := hW.mono s23
    have hS3 := (hS.mono s1).mono s23
    have hDel : ∀ {H'}, Same H3 H' → DelAt H' (.ref dl) (some (dlOf ns d)) := fun s => delAt_of (s _ _ hdl3) hns1 hshort (by omega)
    have hWir : ∀ {H'}, Same H3 H' → WirAt H' (.ref wl) as (some (ws.map some)) := fun s => wirAt_of (.inl (s _ _ hwl3)) (hW3.mono s) (by omega)
    have hokD : okD (dlOf ns d) = true := okD_of (by omega) (by omega) hwords (fun k => ⟨(hdb k).1, by have := (hdb k).2; omega⟩) hd0 hdo
    have hokW : okW (ns ++ [("out" : Str)]) (ws.map some) = true := okW_of (by omega) fun w hw => ⟨(hgood w hw).1, by have := (hgood w hw).2.1; omega, hends w hw⟩
    refine ⟨_, rfl, _, rfl, ?_⟩
    cases hb : beatS (ns ++ [("out" : Str)]) d ws (fun _ => 0) with
    | none =>
      refine iteT ⟨_, rfl, _, rfl, _, _, _, as, _, rfl, hDel (Same.refl _), hWir (Same.refl _), fun H4 s4 => ?_⟩
      rw [okPlan_law hd0 hno, hb, hokD, hokW]
      exact k H4
    | some b =>
      have hok : okPlan (some (dlOf ns d)) (some (ws.map some)) = true := by rw [okPlan_law hd0 hno, hb, hokD, hokW]; rfl
      refine iteF ⟨_, rfl, _, rfl, fun x dx hx hdx hne => ⟨x, dx, _, _, H3, _, as, _, rfl, upd_same, (Same.upd hdx).put hx, hx, hDel (Same.refl _), hWir (Same.refl _), (fun hb' => by rw [hok] at hb'; cases hb'), fun l' items' e1 e2 _ ks' hperm hsort H4 pd pw s4 hpd0 hPl => ⟨rfl, ?_⟩⟩⟩
      cases e1
      cases e2
      rw [knS_dlOf hno] at hperm
      have eks := sort_uniq hperm hsort hrise
      subst eks
      rw [wsOf_some, show dOf (dlOf ns d) = d from funext (dlOf_d hd0)] at hPl
      clear hperm hsort
      have hdl4 := s4 _ _ hdl3
      have hwl4 := s4 _ _ hwl3
      obtain ⟨⟨dxp, hx4⟩, hpd4, hpw4, hPW4⟩ := id hPl
      -- the delays are equal
      refine ⟨_, rfl, x, C, dxp, _, _, rfl, hx4, T.cl, T.nD, pfs_delays _ _, _, rfl, dl, _, rfl, hdl4, fun Ha l1 ts sA hl1 hts hnot hL hT => ⟨(by show 2 ≤ sizeLine; decide), fun t2 ht2 => ⟨(by show 1 ≤ sizeLine; decide), fun l2 hl2 => ?_⟩⟩⟩
      have sA : Same H4 Ha := sA
      have htn : ts.length = ns.length := by rw [hT.length, DI_length]
      have sB := Same.upd (o := .tup [V.str "out", V.int 0]) ht2
      have ht2b : L2.upd Ha t2 (.tup [V.str "out", V.int 0]) t2 = some (.tup [V.str "out", V.int 0]) := upd_same
      generalize L2.upd Ha t2 (.tup [V.str "out", V.int 0]) = Hb at *
      have sC := Same.upd (o := .lst [V.ref t2]) hl2
      have hl2c : L2.upd Hb l2 (.lst [V.ref t2]) l2 = some (.lst [V.ref t2]) := upd_same
      generalize L2.upd Hb l2 (.lst [V.ref t2]) = Hc at *
      refine ⟨l1, l2, _, _, rfl, rfl, sC _ _ (sB _ _ hL), hl2c, (by rw [List.length_map, htn, hnl]; exact Nat.le_trans (Nat.add_le_add hn5 (Nat.le_refl 1)) (by decide)), fun p3 hp3 => ?_⟩
      have sD := Same.upd (o := .lst (ts.map V.ref ++ [V.ref t2])) hp3
      have hp3d : L2.upd Hc p3 (.lst (ts.map V.ref ++ [V.ref t2])) p3 = some (.lst (ts.map V.ref ++ [V.ref t2])) := upd_same
      generalize L2.upd Hc p3 (.lst (ts.map V.ref ++ [V.ref t2])) = Hd at *
      obtain ⟨xs, ex1, ex2, ex3⟩ := items_xs hT
      have hsD := (sB.trans sC).trans sD
      have exs : (xs ++ [(t2, (("out" : Str), (0 : Int)))]).map (fun y => V.ref y.1) = ts.map V.ref ++ [V.ref t2] := by
        rw [List.map_append, ← ex1, List.map_map]
        rfl
      refine ⟨p3, xs ++ [(t2, (("out" : Str), (0 : Int)))], rfl, SqL.of (by rw [exs]; exact hp3d), fun y hy => ?_, ?_, ?_, fun sp hsp => ?_⟩
      · rcases List.mem_append.mp hy with z | z
        · exact SqT.of (hsD _ _ (ex3 y z))
        · rw [List.mem_singleton.mp z]
          exact SqT.of (sD _ _ (sC _ _ ht2b))
      · have : ((xs ++ [(t2, (("out" : Str), (0 : Int)))]).map fun y => y.2.1).Pairwise fun a b => a.cps.toList < b.cps.toList := by
          rw [List.map_append, ex2]
          exact hrise
        exact (List.pairwise_map (f := fun y : Addr × Str × Int => y.2.1) (R := fun a b : Str => a.cps.toList < b.cps.toList)).mp this
      · rw [List.length_append, List.length_singleton]
        have : xs.length = ts.length := by rw [← ex1, List.length_map]
        omega
      rw [exs]
      have sE := Same.upd (o := .lst (ts.map V.ref ++ [V.ref t2])) hsp
      have hspe : L2.upd Hd sp (.lst (ts.map V.ref ++ [V.ref t2])) sp = some (.lst ((ts ++ [t2]).map V.ref)) := by rw [upd_same, List.map_append]; rfl
      generalize L2.upd Hd sp (.lst (ts.map V.ref ++ [V.ref t2])) = He at *
      have hsE := hsD.trans sE
      refine ⟨sp, ts ++ [t2], DI (ns ++ [("out" : Str)]) d, rfl, SqL.of hspe, ?_, fun dd hdd => ?_⟩
      · rw [DI_append]
        refine Paired.snoc (Paired.mapP hT fun t kv e => SqT.of (hsE _ _ e)) ?_
        refine SqT.of (sE _ _ (sD _ _ (sC _ _ ?_)))
        rw [ht2b]
        show some (HO.tup [V.str "out", V.int 0]) = some (HO.tup [V.str "out", V.int (d ("out" : Str))])
        rw [hdo]
      rw [merge_DI hnd]
      have sF := Same.upd (o := .dK (DI (ns ++ [("out" : Str)]) d)) hdd
      have hddf : L2.upd He dd (.dK (DI (ns ++ [("out" : Str)]) d)) dd = some (.dK (DI (ns ++ [("out" : Str)]) d)) := upd_same
      generalize L2.upd He dd (.dK (DI (ns ++ [("out" : Str)]) d)) = H5 at *
      have s45 : Same H4 H5 := (sA.trans hsE).trans sF
      refine ⟨pd, dd, _, _, rfl, rfl, s45 _ _ hpd4, hddf, rfl, fun p hp => ?_, _, rfl, iteF ?_⟩
      · obtain ⟨kk, hk, rfl⟩ := List.mem_map.mp hp
        exact ⟨valV_DI hk, rfl⟩
      clear hp3d hspe hddf sF sE sD sC sB hsE hsD ex1 ex2 ex3 exs hT hL ht2b hl2c
      -- so are their names
      refine ⟨_, rfl, x, C, dxp, _, _, rfl, s45 _ _ hx4, T.cl, T.nD, pfs_delays _ _, pd, _, rfl, .inl (s45 _ _ hpd4), fun lb hlb => ?_⟩
      rw [DI_keys]
      have sB := Same.upd (o := .lst ((ns ++ [("out" : Str)]).map V.str)) hlb
      have hlb1 : L2.upd H5 lb (.lst ((ns ++ [("out" : Str)]).map V.str)) lb = some (.lst ((ns ++ [("out" : Str)]).map V.str)) := upd_same
      generalize L2.upd H5 lb (.lst ((ns ++ [("out" : Str)]).map V.str)) = H6 at *
      refine ⟨_, rfl, dl, _, rfl, .inl (sB _ _ (s45 _ _ hdl4)), fun l3 hl3 => ⟨(by show 1 ≤ sizeLine; decide), fun l4 hl4 => ?_⟩⟩
      have sC := Same.upd (o := .lst ((DI ns d).map fun kv => kV kv.1)) hl3
      have sD := Same.upd (o := .lst [V.str "out"]) hl4
      refine ⟨l3, l4, _, _, rfl, rfl, sD _ _ upd_same, upd_same, (by rw [List.length_map, DI_length, hnl]; exact Nat.le_trans (Nat.add_le_add hn5 (Nat.le_refl 1)) (by decide)), fun l5 hl5 => ?_⟩
      have sE := Same.upd (o := .lst ((DI ns d).map (fun kv => kV kv.1) ++ [V.str "out"])) hl5
      have hl5e : L2.upd (L2.upd (L2.upd H6 l3 (.lst ((DI ns d).map fun kv => kV kv.1))) l4 (.lst [V.str "out"])) l5 (.lst ((DI ns d).map (fun kv => kV kv.1) ++ [V.str "out"])) l5 = some (.lst ((ns ++ [("out" : Str)]).map V.str)) := by
        rw [upd_same, DI_keys, List.map_append]
        rfl
      have s6E := (sC.trans sD).trans sE
      generalize L2.upd (L2.upd (L2.upd H6 l3 (.lst ((DI ns d).map fun kv => kV kv.1))) l4 (.lst [V.str "out"])) l5 (.lst ((DI ns d).map (fun kv => kV kv.1) ++ [V.str "out"])) = H7 at *
      refine ⟨l5, ns ++ [("out" : Str)], rfl, SqL.of hl5e, by omega, fun ys p5 hperm hsort hp5 => ?_⟩
      have eys := sort_uniq hperm hsort hrise
      subst eys
      have sG := Same.upd (o := .lst ((ns ++ [("out" : Str)]).map V.str)) hp5
      have hp5g : L2.upd H7 p5 (.lst ((ns ++ [("out" : Str)]).map V.str)) p5 = some (.lst ((ns ++ [("out" : Str)]).map V.str)) := upd_same
      generalize L2.upd H7 p5 (.lst ((ns ++ [("out" : Str)]).map V.str)) = H8 at *
      have s48 := (s45.trans sB).trans (s6E.trans sG)
      refine ⟨lb, p5, _, rfl, rfl, SqL.of (sG _ _ (s6E _ _ hlb1)), SqL.of hp5g, (fun v hv => ?_), _, rfl, iteF ?_⟩
      · obtain ⟨z, _, rfl⟩ := List.mem_map.mp hv
        rfl
      clear hp5g hl5e sG sE sD sC sB hlb1 hperm hsort
      -- and the wires
      refine ⟨_, rfl, x, C, dxp, _, _, rfl, s48 _ _ hx4, T.cl, T.nW, pfs_wires _ _, _, rfl, wl, _, rfl, .inl ⟨SqL.of (s48 _ _ hwl4), fun tw htw => ?_⟩⟩
      have sT := Same.upd (o := .tup (as.map V.ref)) htw
      have htw1 : L2.upd H8 tw (.tup (as.map V.ref)) tw = some (.tup (as.map V.ref)) := upd_same
      generalize L2.upd H8 tw (.tup (as.map V.ref)) = H9 at *
      have s49 := s48.trans sT
      refine ⟨pw, tw, as, rfl, rfl, SqT.of (s49 _ _ hpw4), SqT.of htw1, _, rfl, iteF ?_⟩
      have s39 := s4.trans s49
      have hP9 := hPl.mono s49
      clear htw1 sT s48 s45
      have hdl9 := s39 _ _ hdl3
      have hwl9 := s39 _ _ hwl3
      have hPx9 := hP9
      obtain ⟨⟨dxp9, hx9⟩, hpd9, hpw9, hPW9⟩ := id hP9
      -- the beat
      refine ⟨_, rfl, x, dxp9, _, rfl, hx9, pfs_no _ _ (by decide +kernel) (by decide +kernel), fun m2 hm2 => ?_⟩
      have sA := Same.upd (o := .dK []) hm2
      refine ⟨x, m2, pd, pw, _, d, as, ws, fun _ => 0, rfl, hP9.mono sA, MovesAt.nil upd_same, by omega, by omega, hout, hends, fun H10 sB => ?_⟩
      rw [hb]
      refine ⟨_, rfl, rfl, _, rfl, ?_⟩
      rw [decide_eq_true rfl]
      refine iteF ?_
      have s9A := sA.trans sB
      clear sA sB
      have hP10 := hP9.mono s9A
      obtain ⟨⟨dxpA, hxA⟩, hpdA, hpwA, hPWA⟩ := id hP10
      have s3A := s39.trans s9A
      -- an equal plan
      refine ⟨_, rfl, _, rfl, dl, _, rfl, s3A _ _ hdl3, fun Ha l1 ts sA hl1 hts hnot hL hT => ?_⟩
      have sA : Same H10 Ha := sA
      have hTr : Paired (fun p kv => SqT K Ha p [kV kv.1, kv.2]) ts (DI ns d) := Paired.mapP hT fun t kv e => SqT.of e
      refine ⟨l1, ts, DI ns d, rfl, SqL.of hL, hTr, fun dr hdr => ?_⟩
      have erev : mergeK [] (DI ns d).reverse = DI ns.reverse d := by
        have : (DI ns d).reverse = DI ns.reverse d := by unfold DI; rw [List.map_reverse]
        rw [this, merge_DI ((List.reverse_perm ns).nodup_iff.mpr hns1)]
      rw [erev]
      have sB := Same.upd (o := .dK (DI ns.reverse d)) hdr
      have hdrB : L2.upd Ha dr (.dK (DI ns.reverse d)) dr = some (.dK (DI ns.reverse d)) := upd_same
      generalize L2.upd Ha dr (.dK (DI ns.reverse d)) = Hb at *
      have sAB := sA.trans sB
      refine ⟨_, rfl, wl, _, rfl, .inl ⟨SqL.of (sAB _ _ (s3A _ _ hwl3)), fun tw htw => ?_⟩⟩
      have sC := Same.upd (o := .tup (as.map V.ref)) htw
      have htwC : L2.upd Hb tw (.tup (as.map V.ref)) tw = some (.tup (as.map V.ref)) := upd_same
      generalize L2.upd Hb tw (.tup (as.map V.ref)) = Hc at *
      have sAC := sAB.trans sC
      have s3C := s3A.trans sAC
      have hshortR : ns.reverse.all (fun k => decide (k.length ≤ 1000)) = true := by rw [List.all_reverse]; exact hshort
      have h0R : ∀ k, k ∉ ns.reverse → d k = 0 := fun k hk => hd0 k fun z => hk (List.mem_reverse.mpr z)
      have hnoR : ("out" : Str) ∉ ns.reverse := fun z => hno (List.mem_reverse.mp z)
      have hokR := okPlan_rev hd0 hno hok
      have hDR : DelAt Hc (.ref dr) (some (dlOf ns.reverse d)) := delAt_of (sC _ _ hdrB) ((List.reverse_perm ns).nodup_iff.mpr hns1) hshortR (by rw [List.length_reverse]; omega)
      have hWR : WirAt Hc (.ref tw) as (some (ws.map some)) := wirAt_of (.inr htwC) (hW3.mono s3C) (by omega)
      refine fun y dy hy hdy hney => ⟨y, dy, _, _, Hc, _, as, _, rfl, upd_same, (Same.upd hdy).put hy, hy, hDR, hWR, (fun hb' => by rw [hokR] at hb'; cases hb'), fun l' items' e1 e2 _ ks' hperm hsort Hd pd2 pw2 sD hpd20 hPl2 => ⟨rfl, ?_⟩⟩
      cases e1
      cases e2
      rw [knS_dlOf hnoR] at hperm
      have eks := sort_uniq (hperm.trans (List.Perm.append_right _ (List.reverse_perm _))) hsort hrise
      subst eks
      rw [wsOf_some, show dOf (dlOf ns.reverse d) = d from funext (dlOf_d h0R)] at hPl2
      have sAD := sAC.trans sD
      have hPd := hP10.mono sAD
      obtain ⟨⟨dxd, hxd⟩, hpdd, _, _⟩ := id hPd
      obtain ⟨⟨dxd2, hyd⟩, _, _, _⟩ := id hPl2
      have npd : pd ≠ pd2 := ne_of_none (sAC _ _ hpdA) hpd20
      refine ⟨x, y, _, _, _, _, rfl, rfl, hxd, hyd, x, y, pd, pw, pd2, pw2, _, d, d, as, [], ws, ws, rfl, hPd, (by rw [List.append_nil]; exact hPl2), npd, fun He sE => ⟨_, rfl, _, rfl, ?_⟩⟩
      rw [show ((ns ++ [("out" : Str)]).all fun k => decide (d k = d k)) = true from List.all_eq_true.mpr fun k _ => decide_eq_true rfl]
      refine iteF ?_
      have sAE := sAD.trans sE
      have s3E := s3A.trans sAE
      have hPe := hP10.mono sAE
      clear hPl2 hPd hTr hT hL erev hdrB htwC hperm hsort hDR hWR sA sB sC sD sE sAB sAC sAD
      -- another plan
      refine ⟨_, rfl, _, rfl, _, rfl, wl, _, rfl, .inl (SqL.of (s3E _ _ hwl3)), fun lw hlw => ⟨(by show 3 ≤ sizeLine; decide), fun t3 ht3 => ⟨(by show 1 ≤ sizeLine; decide), fun l6 hl6 => ?_⟩⟩⟩
      have sA := Same.upd (o := .lst (as.map V.ref)) hlw
      have hlwA : L2.upd He lw (.lst (as.map V.ref)) lw = some (.lst (as.map V.ref)) := upd_same
      generalize L2.upd He lw (.lst (as.map V.ref)) = Hf at *
      have sB := Same.upd (o := .tup [V.str "out", V.str "a", V.int 1]) ht3
      have ht3B : L2.upd Hf t3 (.tup [V.str "out", V.str "a", V.int 1]) t3 = some (.tup (wtup (("out" : Str), ("a" : Str), (1 : Int)))) := upd_same
      generalize L2.upd Hf t3 (.tup [V.str "out", V.str "a", V.int 1]) = Hg at *
      have sC := Same.upd (o := .lst [V.ref t3]) hl6
      have hl6C : L2.upd Hg l6 (.lst [V.ref t3]) l6 = some (.lst [V.ref t3]) := upd_same
      generalize L2.upd Hg l6 (.lst [V.ref t3]) = Hh at *
      have hasl : as.length = ws.length := hW3.length
      refine ⟨lw, l6, _, _, rfl, rfl, sC _ _ (sB _ _ hlwA), hl6C, (by rw [List.length_map, hasl]; exact Nat.le_trans (Nat.add_le_add hwsl (Nat.le_refl 1)) (by decide)), fun l7 hl7 => ?_⟩
      have sD := Same.upd (o := .lst (as.map V.ref ++ [V.ref t3])) hl7
      have hl7D : L2.upd Hh l7 (.lst (as.map V.ref ++ [V.ref t3])) l7 = some (.lst ((as ++ [t3]).map V.ref)) := by rw [upd_same, List.map_append]; rfl
      generalize L2.upd Hh l7 (.lst (as.map V.ref ++ [V.ref t3])) = Hi at *
      have sED := ((sA.trans sB).trans sC).trans sD
      have s3I := s3E.trans sED
      have hW4 : WiresAt Hi (as ++ [t3]) (ws ++ [(("out" : Str), ("a" : Str), (1 : Int))]) := Paired.snoc (hW3.mono s3I) (sD _ _ (sC _ _ ht3B))
      have hokM := okPlan_more hd0 hno ha_ hwsl hok
      have hDM : DelAt Hi (.ref dl) (some (dlOf ns d)) := hDel s3I
      have hWM : WirAt Hi (.ref l7) (as ++ [t3]) (some ((ws ++ [(("out" : Str), ("a" : Str), (1 : Int))]).map some)) := wirAt_of (.inl hl7D) hW4 (by rw [List.length_append, List.length_singleton]; omega)
      refine fun z dz hz hdz hnez => ⟨z, dz, _, _, Hi, _, _, _, rfl, upd_same, (Same.upd hdz).put hz, hz, hDM, hWM, (fun hb' => by rw [hokM] at hb'; cases hb'), fun l' items' e1 e2 _ ks' hperm hsort Hj pd3 pw3 sJ hpd30 hPl3 => ⟨rfl, ?_⟩⟩
      cases e1
      cases e2
      rw [knS_dlOf hno] at hperm
      have eks := sort_uniq hperm hsort hrise
      subst eks
      rw [wsOf_some, show dOf (dlOf ns d) = d from funext (dlOf_d hd0)] at hPl3
      have sEJ := sED.trans sJ
      have hPj := hPe.mono sEJ
      obtain ⟨⟨dxj, hxj⟩, hpdj, _, _⟩ := id hPj
      obtain ⟨⟨dxj2, hzj⟩, _, _, _⟩ := id hPl3
      have npd3 : pd ≠ pd3 := ne_of_none (sED _ _ (sAE _ _ hpdA)) hpd30
      refine ⟨x, z, _, _, _, _, rfl, rfl, hxj, hzj, x, z, pd, pw, pd3, pw3, _, d, d, as, [t3], ws, _, rfl, hPj, hPl3, npd3, fun Hk sK => ⟨_, rfl, _, rfl, ?_⟩⟩
      rw [show (((ns ++ [("out" : Str)]).all fun k => decide (d k = d k)) && ([t3] : List Addr).isEmpty) = false from Bool.and_false _]
      refine iteF ?_
      have s3K := s3I.trans (sJ.trans sK)
      have hPk := hPj.mono sK
      clear hPl3 hPj hDM hWM hW4 hperm hsort hl7D hl6C ht3B hlwA sA sB sC sD sED sEJ sJ sK
      -- six turns
      refine ⟨fun σ' H' => ∃ v5 v6 : Option V, σ' = [some (.ref a), some (.ref dl), some (.ref wl), some (.int b), some (.ref x), v5, v6, none, none, none, none, none, none, none, none, none] ∧ Same Hk H', ⟨6, rfl, by decide, by decide, for_range (n := 6) (fun i σ H' => ∃ v5 v6 : Option V, σ = [some (.ref a), some (.ref dl), some (.ref wl), some (.int b), some (.ref x), v5, v6, none, none, none, none, none, none, none, none, none] ∧ Same Hk H')
          ⟨none, none, rfl, Same.refl _⟩ ?_ (fun σ H' h => h)⟩, ?_⟩
      · rintro i σ Hl hi ⟨v5, v6, rfl, sl⟩
        have s3l := s3K.trans sl
        have hPl' := hPk.mono sl
        refine ⟨_, rfl, dl, _, rfl, .inl (s3l _ _ hdl3), fun l3 hl3 => ⟨(by show 1 ≤ sizeLine; decide), fun l4 hl4 => ?_⟩⟩
        have sC := Same.upd (o := .lst ((DI ns d).map fun kv => kV kv.1)) hl3
        have sD := Same.upd (o := .lst [V.str "out"]) hl4
        refine ⟨l3, l4, _, _, rfl, rfl, sD _ _ upd_same, upd_same, (by rw [List.length_map, DI_length, hnl]; exact Nat.le_trans (Nat.add_le_add hn5 (Nat.le_refl 1)) (by decide)), fun l5 hl5 => ?_⟩
        have sE := Same.upd (o := .lst ((DI ns d).map (fun kv => kV kv.1) ++ [V.str "out"])) hl5
        have hl5e : L2.upd (L2.upd (L2.upd Hl l3 (.lst ((DI ns d).map fun kv => kV kv.1))) l4 (.lst [V.str "out"])) l5 (.lst ((DI ns d).map (fun kv => kV kv.1) ++ [V.str "out"])) l5 = some (.lst ((ns ++ [("out" : Str)]).map V.str)) := by
          rw [upd_same, DI_keys, List.map_append]
          rfl
        have slE := (sC.trans sD).trans sE
        generalize L2.upd (L2.upd (L2.upd Hl l3 (.lst ((DI ns d).map fun kv => kV kv.1))) l4 (.lst [V.str "out"])) l5 (.lst ((DI ns d).map (fun kv => kV kv.1) ++ [V.str "out"])) = Hm at *
        have s3m := s3l.trans slE
        refine ⟨l5, _, rfl, SqL.of hl5e, fun D hD => lc_it walk_enum (fun j H' => Same Hm H' ∧ ∃ (ps : List Addr) (es : List (Str × Int)), H' D = some (.lst (ps.map V.ref)) ∧ ps.length ≤ j ∧ Paired (fun (p : Addr) (e : Str × Int) => H' p = some (.tup [.str e.1, .int e.2])) ps es)
          ⟨Same.upd hD, [], [], upd_same, Nat.le_refl _, .nil⟩ (fun j H' _ h => SqL.of (h.1 _ _ hl5e)) ?_ ?_⟩
        · rintro j y Hn Hn' hj ⟨sn, ps, es, hDn, hpl, hpp⟩ ⟨TT, x1, y1, rfl, hTT, rfl, hx1, hy1⟩
          have hj6 : j < 6 := by rw [List.length_map] at hj; omega
          have ex1 : V.int (j : Nat) = x1 := Option.some.inj hx1
          subst ex1
          obtain ⟨nm, _, ey⟩ : ∃ nm, nm ∈ ns ++ [("out" : Str)] ∧ y1 = V.str nm := by
            obtain ⟨nm, hm, e⟩ := List.mem_map.mp (List.mem_of_getElem? hy1)
            exact ⟨nm, hm, e.symm⟩
          subst ey
          have sT := Same.upd (o := .tup [V.int (j : Nat), V.str nm]) hTT
          have hTT1 : L2.upd Hn TT (.tup [V.int (j : Nat), V.str nm]) TT = some (.tup [V.int (j : Nat), V.str nm]) := upd_same
          generalize L2.upd Hn TT (.tup [V.int (j : Nat), V.str nm]) = Ho at *
          have smo := sn.trans sT
          have s3o := s3m.trans smo
          refine ⟨TT, _, rfl, SqT.of hTT1, rfl, _, _, rfl, _, _, rfl, rfl, rfl, ?_⟩
          refine ⟨_, rfl, _, rfl, _, _, rfl, rfl, .inl ⟨by decide, by decide⟩, _, _, rfl, rfl, _, rfl, _, _, rfl, rfl, a, _, 4, rfl, hS3.mono s3o, by omega, by omega, by decide, fun Hp1 v sp1 v0 v1 => ?_⟩
          refine ⟨_, _, rfl, rfl, _, rfl, ?_⟩
          refine ite2 (fun _ => ?_) (fun _ => ?_)
          · refine ⟨_, rfl, _, rfl, _, rfl, _, _, rfl, rfl, .inl ⟨by decide, by decide⟩, _, _, rfl, rfl, _, rfl, _, _, rfl, rfl, a, _, 5, rfl, hS3.mono (s3o.trans sp1), by omega, by omega, by decide, fun Hq u sq u0 u1 => ?_⟩
            refine ⟨_, _, rfl, rfl, (by show 2 ≤ sizeLine; decide), fun p hp => ?_⟩
            have sP := Same.upd (o := .tup [V.str nm, V.int (u - 2)]) hp
            have snP := ((sT.trans sp1).trans sq).trans sP
            have hDp := snP _ _ hDn
            have hpz : L2.upd Hq p (.tup [V.str nm, V.int (u - 2)]) p = some (.tup [V.str nm, V.int (u - 2)]) := upd_same
            have tl : ∀ Hz, Same Hn Hz → Hz p = some (.tup [V.str nm, V.int (u - 2)]) → Same Hm (L2.upd Hz D (.lst (ps.map V.ref ++ [V.ref p]))) ∧ ∃ (ps' : List Addr) (es' : List (Str × Int)), L2.upd Hz D (.lst (ps.map V.ref ++ [V.ref p])) D = some (.lst (ps'.map V.ref)) ∧ ps'.length ≤ j + 1 ∧ Paired (fun (c : Addr) (e : Str × Int) => L2.upd Hz D (.lst (ps.map V.ref ++ [V.ref p])) c = some (.tup [.str e.1, .int e.2])) ps' es' := fun Hz sz hz => by
              have hDz := sz _ _ hDn
              have tz : ∀ c ys, Hz c = some (.tup ys) → L2.upd Hz D (.lst (ps.map V.ref ++ [V.ref p])) c = some (.tup ys) := fun c ys e => by rw [upd_ne (ne_of e hDz (by intro q; cases q))]; exact e
              refine ⟨(sn.trans sz).put hD, ps ++ [p], es ++ [(nm, u - 2)], by rw [upd_same, List.map_append]; rfl, by rw [List.length_append, List.length_singleton]; omega, ?_⟩
              exact Paired.snoc (Paired.mapP hpp fun c e h => tz c _ (sz _ _ h)) (tz p _ hz)
            exact ⟨ps.map V.ref, hDp, (by rw [List.length_map]; exact Nat.lt_of_le_of_lt hpl (Nat.lt_of_lt_of_le hj6 (by decide))), tl _ snP hpz⟩
          · exact ⟨sn.trans (sT.trans sp1), ps, es, sp1 _ _ (sT _ _ hDn), by omega, Paired.mapP hpp fun _ _ e => sp1 _ _ (sT _ _ e)⟩
        · rintro Hn ⟨sn, ps, es, hDn, hpl, hpp⟩
          refine ⟨D, ps, es.map fun e => ((Sum.inr e.1 : Key), V.int e.2), rfl, SqL.of hDn, ?_, fun mm hmm => ?_⟩
          · clear hDn hpl
            induction hpp with
            | nil => exact .nil
            | cons h _ ih => exact .cons (SqT.of h) ih
          obtain ⟨mv, hmv⟩ := moves_merge es
          have sM := Same.upd (o := .dK (mergeK [] (es.map fun e => ((Sum.inr e.1 : Key), V.int e.2)))) hmm
          have hMM : MovesAt (L2.upd Hn mm (.dK (mergeK [] (es.map fun e => ((Sum.inr e.1 : Key), V.int e.2))))) mm mv := ⟨_, upd_same, hmv⟩
          generalize L2.upd Hn mm (.dK (mergeK [] (es.map fun e => ((Sum.inr e.1 : Key), V.int e.2)))) = Ho at *
          have slo := (slE.trans sn).trans sM
          have s3o := s3l.trans slo
          have hPo := hPl'.mono slo
          obtain ⟨⟨dxo, hxo⟩, _, _, _⟩ := id hPo
          -- the registers
          refine ⟨_, rfl, x, dxo, _, rfl, hxo, pfs_no _ _ (by decide +kernel) (by decide +kernel), _, rfl, x, mm, pd, pw, _, d, as, ws, mv, rfl, hPo, hMM, by omega, fun Hp1 q sp1 hq0 hq1 => ?_⟩
          have hMp := hMM.mono sp1
          have s3p := s3o.trans sp1
          have hWp := hW3.mono s3p
          refine ⟨_, rfl, wl, rfl, ⟨_, SqL.of (s3p _ _ hwl3)⟩, fun D2 hD2 => lc_each walk_list ws (by rw [List.length_map]; exact hWp.length.symm) (by rw [List.length_map, hWp.length]; exact Nat.le_trans hwsl (by decide)) (fun _ => true) (fun w v _ => v = V.int (rg mv w))
            (fun _ _ _ _ _ _ _ _ _ r => r) hD2 (fun H' s => SqL.of (s _ _ (s3p _ _ hwl3))) ?_ ?_⟩
          · rintro i2 e y H1' H1'' acc N hi2 s hDa hal ⟨rfl, hx'⟩ hy hn
            obtain ⟨c, hc, rfl⟩ := ref_get hx'
            obtain ⟨e', he', hae⟩ := paired_get hWp hc
            cases hi2.symm.trans he'
            obtain ⟨i1, o1, q1, v1⟩ := (hMp.mono s).get e.2.1
            obtain ⟨i3, o2, q2, v2⟩ := (hMp.mono s).get e.1
            refine ⟨c, _, rfl, SqT.of (s _ _ hae), rfl, _, _, rfl, _, _, rfl, _, _, rfl, rfl, rfl, ?_⟩
            refine ⟨_, rfl, _, rfl, mm, rfl, i1, _, rfl, o1, q1, _, _, rfl, v1, _, rfl, mm, rfl, i3, _, rfl, o2, q2, _, _, rfl, v2, acc, hDa, hal, ?_⟩
            exact hy rfl _ _ (Same.refl _) rfl
          · intro Hq us sq hDq hpu
            have hus := paired_eq hpu
            rw [List.filter_eq_self.mpr fun _ _ => rfl] at hus
            have hus2 : us = (regs ws mv).map V.int := by
              rw [hus]
              unfold regs
              rw [List.map_map]
              rfl
            subst hus2
            refine ⟨q, D2, (regs ws mv).map V.int, rfl, rfl, SqL.of (sq _ _ hq1), SqL.of hDq, (fun v hv => ?_), _, rfl, iteF ?_⟩
            · obtain ⟨z, _, rfl⟩ := List.mem_map.mp hv
              rfl
            -- the beats
            have soq := sp1.trans sq
            have hPq := hPo.mono soq
            obtain ⟨⟨dxq, hxq⟩, _, _, _⟩ := id hPq
            refine ⟨_, rfl, x, dxq, _, rfl, hxq, pfs_no _ _ (by decide +kernel) (by decide +kernel), _, rfl, x, mm, pd, pw, _, d, as, ws, mv, rfl, hPq, hMM.mono soq, by omega, by omega, hout, hends, fun Hr sr => ?_⟩
            have s3r := (s3o.trans soq).trans sr
            refine ⟨_, rfl, _, rfl, _, rfl, dl, wl, mm, ns, d, as, ws, mv, rfl, s3r _ _ hdl3, SqL.of (s3r _ _ hwl3), hW3.mono s3r, (hMM.mono soq).mono sr, by omega, by omega, hnd, hdo, hends, fun Hs ss => ?_⟩
            refine ⟨scal_opt _, _, rfl, ?_⟩
            rw [decide_eq_true rfl]
            exact iteF ⟨_, _, rfl, sl.trans (((slo.trans soq).trans sr).trans ss)⟩
      · rintro σ Hl ⟨v5, v6, rfl, sl⟩
        have s3l := s3K.trans sl
        have hPl' := hPk.mono sl
        obtain ⟨L, pot⟩ := pot_of hout hkl hdb hdo hwsl hgood hb
        -- with_beat
        refine ⟨_, rfl, _, rfl, .inl ⟨x, pd, pw, _, d, L, as, ws, b, rfl, hPl', pot, hnd, fun Hm fd sm hfd0 hfd => ?_⟩⟩
        have hPm := hPl'.mono sm
        have hMf := MovesAt.DI hfd
        have ezero : ∀ k : Str, (fun k => if k ∈ ns ++ [("out" : Str)] then (0 : Int) else 0) k = (fun _ => (0 : Int)) k := fun k => by
          show (if k ∈ ns ++ [("out" : Str)] then (0 : Int) else 0) = 0
          split <;> rfl
        have ebz : beatS (ns ++ [("out" : Str)]) d ws (fun k => if k ∈ ns ++ [("out" : Str)] then (0 : Int) else 0) = some b := (beat_congr ezero).trans hb
        obtain ⟨⟨dxm, hxm⟩, _, _, _⟩ := id hPm
        refine ⟨_, rfl, x, dxm, _, rfl, hxm, pfs_no _ _ (by decide +kernel) (by decide +kernel), _, rfl, x, fd, pd, pw, _, d, as, ws, _, rfl, hPm, hMf, by omega, by omega, hout, hends, fun Hn sn => ?_⟩
        rw [ebz]
        refine ⟨_, rfl, iteF ?_⟩
        have hPn := hPm.mono sn
        obtain ⟨⟨dxn, hxn⟩, _, _, _⟩ := id hPn
        refine ⟨_, rfl, x, dxn, _, rfl, hxn, pfs_no _ _ (by decide +kernel) (by decide +kernel), _, rfl, x, fd, pd, pw, _, d, as, ws, _, rfl, hPn, hMf.mono sn, by omega, by omega, hout, hends, fun Ho so => ?_⟩
        rw [ebz]
        refine ⟨_, rfl, b, b, rfl, rfl, _, rfl, ?_⟩
        rw [decide_eq_false (by omega)]
        refine iteF ?_
        have hPo := hPn.mono so
        have s3o := s3l.trans (sm.trans (sn.trans so))
        -- beats that have no placing
        refine ⟨fun σ' H' => ∃ v8 : Option V, σ' = [some (.ref a), some (.ref dl), some (.ref wl), some (.int b), some (.ref x), v5, v6, some (.ref fd), v8, none, none, none, none, none, none, none] ∧ Same Ho H', ?_, ?_⟩
        · refine ⟨_, rfl, dl, _, rfl, s3o _ _ hdl3, fun p hp => ?_⟩
          have sp := Same.upd (o := .lst ((DI ns d).map (·.2))) hp
          have hp1 : L2.upd Ho p (.lst ((DI ns d).map (·.2))) p = some (.lst ((ns.map d).map V.int)) := by
            rw [upd_same]
            unfold DI
            rw [List.map_map, List.map_map]
            rfl
          generalize L2.upd Ho p (.lst ((DI ns d).map (·.2))) = Hp1 at *
          refine ⟨p, ns.map d, rfl, SqL.of hp1, (by rw [List.length_map]; omega), fun mm hm1 hm2 => ⟨_, _, rfl, rfl, 1, rfl, (by show 3 ≤ sizeLine; decide), fun tt htt => ?_⟩⟩
          obtain ⟨kk, hkk, emm⟩ := List.mem_map.mp hm1
          have sq := Same.upd (o := .tup [V.int (mm - 1), V.int (-1), V.non]) htt
          have htt1 : L2.upd Hp1 tt (.tup [V.int (mm - 1), V.int (-1), V.non]) tt = some (.tup [V.int (mm - 1), V.int (-1), V.non]) := upd_same
          have fin : ∀ Hq, Same Hp1 Hq → Hq tt = some (.tup [V.int (mm - 1), V.int (-1), V.non]) → SqT K Hq tt [V.int (mm - 1), V.int (-1), V.non] ∧ Same Ho Hq := fun Hq s h => ⟨SqT.of h, sp.trans s⟩
          obtain ⟨fq1, fq2⟩ := fin _ sq htt1
          refine ⟨tt, rfl, ⟨_, fq1⟩, ?_⟩
          refine for_it (tb := fun D σ H => tSeq (tDrop (tCallS (spWithBeat C CB CN) (WE (wOnly K (.ref CN) (fun a cls d => tNext) (fun _ _ _ _ => False) D)) (tCons (tVar 4) (tCons (tVar 8) tNil)))) (tRet (tC (.bl false))) D σ H) (xs_len3 K tt (mm - 1)) (fun i σ H' => ∃ v8 : Option V, σ = [some (.ref a), some (.ref dl), some (.ref wl), some (.int b), some (.ref x), v5, v6, some (.ref fd), v8, none, none, none, none, none, none, none] ∧ SqT K H' tt [V.int (mm - 1), V.int (-1), V.non] ∧ Same Ho H') ⟨none, rfl, fq1, fq2⟩ (fun i σ H' _ ⟨_, _, h, _⟩ => h) ?_ ?_
          · rintro i y σ Hr Hr' hi ⟨v8, rfl, hsq, sr⟩ ⟨rfl, hy⟩
            have hyv : y = .non ∨ ∃ i k, y = .int i ∧ k ∈ ns ++ [("out" : Str)] ∧ i < d k := by
              have hym := List.mem_of_getElem? hy
              have hkk' := List.mem_append_left [("out" : Str)] hkk
              have hd0' := (hdb kk).1
              rcases List.mem_cons.mp hym with z | z
              · exact .inr ⟨_, kk, z, hkk', by omega⟩
              · rcases List.mem_cons.mp z with z | z
                · exact .inr ⟨_, kk, z, hkk', by omega⟩
                · exact .inl (List.mem_singleton.mp z)
            refine ⟨_, rfl, _, rfl, .inr (.inl ⟨x, pd, pw, _, d, as, ws, y, rfl, hPo.mono sr, (fun z => by rw [z] at hout; cases hout), hyv, fun H' s' => ⟨true, XN.eP, fun _ c hc => ?_, fun z => nomatch z⟩⟩)⟩
            refine ⟨_, rfl, ?_, sr.trans s'⟩
            rcases hsq with (h | ⟨o, h⟩) | h
            · exact .inl (.inl (s' _ _ h))
            · exact .inl (.inr ⟨o, s' _ _ h⟩)
            · exact .inr h
          · rintro σ Hr ⟨v8, rfl, _, sr⟩
            exact ⟨v8, rfl, sr⟩
        · rintro σ Hp2 ⟨v8, rfl, sp2⟩
          -- no plan
          refine ⟨fun σ' H' => σ' = [some (.ref a), some (.ref dl), some (.ref wl), some (.int b), some (.ref x), v5, v6, some (.ref fd), v8, none, none, none, none, none, none, none], ?_, ?_⟩
          · exact .inr (.inr ⟨3, 4, rfl, ⟨true, XB.eP, fun _ c hc => rfl, fun z => nomatch z⟩⟩)
          · rintro σ Hq rfl
            -- plans that are refused
            refine ⟨fun σ' H' => True, ?_, ?_⟩
            · unfold tFor
              refine ap_tup q_all (by decide) (fun Hr tt ps s' htt1 hbad => ?_)
              refine for_it walk_tup (fun i σ H2 => ∃ v9 v10 : Option V, σ = [some (.ref a), some (.ref dl), some (.ref wl), some (.int b), some (.ref x), v5, v6, some (.ref fd), v8, v9, v10, none, none, none, none, none] ∧ Same Hr H2) ⟨none, none, rfl, Same.refl _⟩ (fun i σ H2 _ ⟨_, _, _, s2⟩ => SqT.of (s2 _ _ htt1)) ?_ (fun _ _ _ => True.intro)
              rintro i y σ Hs Hs' hi ⟨v9, v10, rfl, s2⟩ ⟨rfl, hy⟩
              obtain ⟨p, hp, rfl⟩ := ref_get hy
              obtain ⟨dv, wv, D, as', W, hpt, hDv, hWv, hno'⟩ := (hbad p (List.mem_of_getElem? hp)).mono s2
              refine ⟨p, _, rfl, SqT.of hpt, rfl, _, _, rfl, _, _, rfl, rfl, ?_⟩
              refine ⟨_, rfl, _, rfl, dv, wv, D, as', W, rfl, hDv, hWv, fun H3 s3' => ⟨_, rfl, ?_⟩⟩
              rw [hno']
              exact iteF ⟨_, _, rfl, s2.trans s3'⟩
            · rintro σ Hr -
              -- the last plan
              unfold tRet tOp tMeth
              refine make_of (d_one (x := "a") (v := .int 1) True.intro (by decide +kernel)) (w_two (h := "out") (t := "a") (c := 0) (h2 := "a") (t2 := "out") (c2 := 0)) (fun Ht dv wv as' st hDv hWv y dy hy hdy hney => ?_)
              refine ⟨y, dy, dv, wv, Ht, _, as', _, rfl, upd_same, (Same.upd hdy).put hy, hy, hDv, hWv, (fun hb' => by rw [g1] at hb'; cases hb'), fun l' items' e1 e2 _ ks' hperm hsort Hu pd2 pw2 su hpd20 hPl2 => ⟨rfl, ?_⟩⟩
              cases e1
              cases e2
              obtain ⟨⟨dxu, hyu⟩, _, _, _⟩ := id hPl2
              refine ⟨y, dxu, _, rfl, hyu, pfs_no _ _ (by decide +kernel) (by decide +kernel), fun m3 hm3 => ?_⟩
              have s3' := Same.upd (o := .dK []) hm3
              refine ⟨y, m3, pd2, pw2, ks', _, as', _, fun _ => 0, rfl, hPl2.mono s3', MovesAt.nil upd_same, (by decide), (by rw [hperm.length_eq]; decide +kernel), hperm.mem_iff.mpr (by decide +kernel), fun w hw => ?_, fun Hv sv => ?_⟩
              · have : ∀ w ∈ wsOf [some (("out" : Str), ("a" : Str), (0 : Int)), some (("a" : Str), ("out" : Str), (0 : Int))], w.1 ∈ knS [(("a" : Str), V.int 1)] ∧ w.2.1 ∈ knS [(("a" : Str), V.int 1)] := by decide +kernel
                obtain ⟨q1, q2⟩ := this w hw
                exact ⟨hperm.mem_iff.mpr q1, hperm.mem_iff.mpr q2⟩
              · have e : beatS ks' (dOf [(("a" : Str), V.int 1)]) (wsOf [some (("out" : Str), ("a" : Str), (0 : Int)), some (("a" : Str), ("out" : Str), (0 : Int))]) (fun _ => 0) = some 1 := (beat_perm hperm).trans g2'
                rw [e]
                exact ⟨rfl, k _⟩
end
end Bw

/-! #### D18 -/
set_option Elab.async false
set_option linter.all false
set_option maxRecDepth 100000
set_option maxHeartbeats 8000000
namespace Bw
open PySem PySem.Spec PyProof.Rows L2
theorem int_no (C : Addr) : (PySem.fastBuiltinMro "int").map (·.contains (.ref C)) = some false := by
  first | rfl | kernel_rfl | with_unfolding_all rfl
theorem kit_same {K : PySem.W.Frag} {t : Value} : PySem.W.kitOne K t t = some true := by
  unfold PySem.W.kitOne
  rw [if_pos (beq_self_eq_true t)]
theorem kit_int {K : PySem.W.Frag} {C : Addr} (h1 : PySem.W.isClsIn K C = true) (h2 : PySem.W.typeIn K (.ref C) = some (.type "type")) : PySem.W.kitOne K (.type "int") (.ref C) = some false := by
  have e2 : ((PySem.W.clsIn K C).isSome && PySem.W.typeIn K (.ref C) == some (.type "type")) = true := by
    have h' : (PySem.W.clsIn K C).isSome = true := h1
    rw [h', h2] <;> rfl
  show (if ((Value.type "int") == (Value.ref C)) = true then some true else if ((PySem.W.clsIn K C).isSome && PySem.W.typeIn K (.ref C) == some (.type "type")) = true then PySem.W.subIn K (.type "int") (.ref C) else none) = some false
  rw [if_neg (by simp), if_pos e2]
  exact int_no C
/-- an error of the class at S is what an except of S names -/
theorem exm_self {K : PySem.W.Frag} {S : Addr} (h1 : PySem.W.subIn K (.ref S) (.type "BaseException") = some true) (h2 : PySem.W.isClsIn K S = true) (h3 : PySem.W.typeIn K (.ref S) = some (.type "type")) (h4 : PySem.W.subIn K (.ref S) (.ref S) = some true) :
    PySem.W.exmOne K (.ref S) (.ref S) = some true := by
  have e1 : (PySem.W.subIn K (.ref S) (.type "BaseException") == some true) = true := by rw [h1] <;> rfl
  have e2 : ((PySem.W.clsIn K S).isSome && PySem.W.typeIn K (.ref S) == some (.type "type")) = true := by
    have h2' : (PySem.W.clsIn K S).isSome = true := h2
    rw [h2', h3] <;> rfl
  show (if (PySem.W.subIn K (.ref S) (.type "BaseException") == some true) = true then (if ((PySem.W.clsIn K S).isSome && PySem.W.typeIn K (.ref S) == some (.type "type")) = true then PySem.W.subIn K (.ref S) (.ref S) else none) else none) = some true
  rw [if_pos e1, if_pos e2]
  exact h4
theorem all_mk {l : PySem.W.OpenLaw} {w : World} {K : PySem.W.Frag} {h : Heap} {mg : Str → Option Value} {fa C CW CB CN : Addr} {tO : Tok} (X : K.In h) (G : h.Ns mainGlobals mg) (hfa : mg "law" = some (.ref fa))
    {f_isnum f_isword f_ring f_placed f_check f_wb f_draw f_lplan f_lbeat f_lring f_lref f_law f_pinit f_peq f_regs f_beat f_winit f_ext f_lim : Addr} {od_isnum an_isnum od_isword an_isword od_ring an_ring od_placed an_placed od_check an_check od_wb an_wb od_draw an_draw od_lplan an_lplan od_lbeat an_lbeat od_lring an_lring od_lref an_lref od_law an_law od_pinit an_pinit od_peq an_peq od_regs an_regs od_beat an_beat od_winit an_winit od_ext an_ext od_lim an_lim : Option Addr} {sl_isnum sl_isword sl_ring sl_placed sl_check sl_wb sl_draw sl_lplan sl_lbeat sl_lring sl_lref sl_law sl_pinit sl_peq sl_regs sl_beat sl_winit sl_ext sl_lim : Array (Option Value)} {oc_isnum kV_isnum dc_isnum pm_isnum cd_isnum ct_isnum oc_isword kV_isword dc_isword pm_isword cd_isword ct_isword oc_ring kV_ring dc_ring pm_ring cd_ring ct_ring oc_placed kV_placed dc_placed pm_placed cd_placed ct_placed oc_check kV_check dc_check pm_check cd_check ct_check oc_wb kV_wb dc_wb pm_wb cd_wb ct_wb oc_draw kV_draw dc_draw pm_draw cd_draw ct_draw oc_lplan kV_lplan dc_lplan pm_lplan cd_lplan ct_lplan oc_lbeat kV_lbeat dc_lbeat pm_lbeat cd_lbeat ct_lbeat oc_lring kV_lring dc_lring pm_lring cd_lring ct_lring oc_lref kV_lref dc_lref pm_lref cd_lref ct_lref oc_law kV_law dc_law pm_law cd_law ct_law oc_pinit kV_pinit dc_pinit pm_pinit cd_pinit ct_pinit oc_peq kV_peq dc_peq pm_peq cd_peq ct_peq oc_regs kV_regs dc_regs pm_regs cd_regs ct_regs oc_beat kV_beat dc_beat pm_beat cd_beat ct_beat oc_winit kV_winit dc_winit pm_winit cd_winit ct_winit oc_ext kV_ext dc_ext pm_ext cd_ext ct_ext oc_lim kV_lim dc_lim pm_lim cd_lim ct_lim : Value}
    (a_C : PySem.W.nsIn K mainGlobals "Plan" = some (some (.ref C)))
    (a_CW : PySem.W.nsIn K mainGlobals "Ways" = some (some (.ref CW)))
    (a_CB : PySem.W.nsIn K mainGlobals "BadPlan" = some (some (.ref CB)))
    (a_CN : PySem.W.nsIn K mainGlobals "NoPlacing" = some (some (.ref CN)))
    (a_OUT : PySem.W.nsIn K mainGlobals "OUT" = some (some (.str "out" tO)))
    (a_isnum : PySem.W.nsIn K mainGlobals "is_number" = some (some (.ref f_isnum)))
    (l_isnum : K.lookup f_isnum = some ⟨oc_isnum, od_isnum, .func (PySem.W.fnOf "is_number" "is_number" (defArgs sIsNum) (defBody sIsNum) (defScope sIsNum) .none kV_isnum dc_isnum pm_isnum an_isnum cd_isnum ct_isnum), sl_isnum⟩)
    (c_isnum : PySem.W.codeIn K cd_isnum "is_number" = true)
    (k_isnum : PySem.W.keepIn K (.ref f_isnum) = true)
    (a_isword : PySem.W.nsIn K mainGlobals "is_word" = some (some (.ref f_isword)))
    (l_isword : K.lookup f_isword = some ⟨oc_isword, od_isword, .func (PySem.W.fnOf "is_word" "is_word" (defArgs sIsWord) (defBody sIsWord) (defScope sIsWord) .none kV_isword dc_isword pm_isword an_isword cd_isword ct_isword), sl_isword⟩)
    (c_isword : PySem.W.codeIn K cd_isword "is_word" = true)
    (k_isword : PySem.W.keepIn K (.ref f_isword) = true)
    (a_ring : PySem.W.nsIn K mainGlobals "ring_in" = some (some (.ref f_ring)))
    (l_ring : K.lookup f_ring = some ⟨oc_ring, od_ring, .func (PySem.W.fnOf "ring_in" "ring_in" (defArgs sRingIn) (defBody sRingIn) (defScope sRingIn) .none kV_ring dc_ring pm_ring an_ring cd_ring ct_ring), sl_ring⟩)
    (c_ring : PySem.W.codeIn K cd_ring "ring_in" = true)
    (k_ring : PySem.W.keepIn K (.ref f_ring) = true)
    (a_placed : PySem.W.nsIn K mainGlobals "placed" = some (some (.ref f_placed)))
    (l_placed : K.lookup f_placed = some ⟨oc_placed, od_placed, .func (PySem.W.fnOf "placed" "placed" (defArgs sPlaced) (defBody sPlaced) (defScope sPlaced) .none kV_placed dc_placed pm_placed an_placed cd_placed ct_placed), sl_placed⟩)
    (c_placed : PySem.W.codeIn K cd_placed "placed" = true)
    (k_placed : PySem.W.keepIn K (.ref f_placed) = true)
    (a_check : PySem.W.nsIn K mainGlobals "check_plan" = some (some (.ref f_check)))
    (l_check : K.lookup f_check = some ⟨oc_check, od_check, .func (PySem.W.fnOf "check_plan" "check_plan" (defArgs sCheck) (defBody sCheck) (defScope sCheck) .none kV_check dc_check pm_check an_check cd_check ct_check), sl_check⟩)
    (c_check : PySem.W.codeIn K cd_check "check_plan" = true)
    (k_check : PySem.W.keepIn K (.ref f_check) = true)
    (a_wb : PySem.W.nsIn K mainGlobals "with_beat" = some (some (.ref f_wb)))
    (l_wb : K.lookup f_wb = some ⟨oc_wb, od_wb, .func (PySem.W.fnOf "with_beat" "with_beat" (defArgs sWithBeat) (defBody sWithBeat) (defScope sWithBeat) .none kV_wb dc_wb pm_wb an_wb cd_wb ct_wb), sl_wb⟩)
    (c_wb : PySem.W.codeIn K cd_wb "with_beat" = true)
    (k_wb : PySem.W.keepIn K (.ref f_wb) = true)
    (a_draw : PySem.W.nsIn K mainGlobals "_law_draw" = some (some (.ref f_draw)))
    (l_draw : K.lookup f_draw = some ⟨oc_draw, od_draw, .func (PySem.W.fnOf "_law_draw" "_law_draw" (defArgs sDraw) (defBody sDraw) (defScope sDraw) .none kV_draw dc_draw pm_draw an_draw cd_draw ct_draw), sl_draw⟩)
    (c_draw : PySem.W.codeIn K cd_draw "_law_draw" = true)
    (k_draw : PySem.W.keepIn K (.ref f_draw) = true)
    (a_lplan : PySem.W.nsIn K mainGlobals "_law_plan" = some (some (.ref f_lplan)))
    (l_lplan : K.lookup f_lplan = some ⟨oc_lplan, od_lplan, .func (PySem.W.fnOf "_law_plan" "_law_plan" (defArgs sLPlan) (defBody sLPlan) (defScope sLPlan) .none kV_lplan dc_lplan pm_lplan an_lplan cd_lplan ct_lplan), sl_lplan⟩)
    (c_lplan : PySem.W.codeIn K cd_lplan "_law_plan" = true)
    (k_lplan : PySem.W.keepIn K (.ref f_lplan) = true)
    (a_lbeat : PySem.W.nsIn K mainGlobals "_law_beat" = some (some (.ref f_lbeat)))
    (l_lbeat : K.lookup f_lbeat = some ⟨oc_lbeat, od_lbeat, .func (PySem.W.fnOf "_law_beat" "_law_beat" (defArgs sLBeat) (defBody sLBeat) (defScope sLBeat) .none kV_lbeat dc_lbeat pm_lbeat an_lbeat cd_lbeat ct_lbeat), sl_lbeat⟩)
    (c_lbeat : PySem.W.codeIn K cd_lbeat "_law_beat" = true)
    (k_lbeat : PySem.W.keepIn K (.ref f_lbeat) = true)
    (a_lring : PySem.W.nsIn K mainGlobals "_law_ring" = some (some (.ref f_lring)))
    (l_lring : K.lookup f_lring = some ⟨oc_lring, od_lring, .func (PySem.W.fnOf "_law_ring" "_law_ring" (defArgs sLRing) (defBody sLRing) (defScope sLRing) .none kV_lring dc_lring pm_lring an_lring cd_lring ct_lring), sl_lring⟩)
    (c_lring : PySem.W.codeIn K cd_lring "_law_ring" = true)
    (k_lring : PySem.W.keepIn K (.ref f_lring) = true)
    (a_lref : PySem.W.nsIn K mainGlobals "_law_refused" = some (some (.ref f_lref)))
    (l_lref : K.lookup f_lref = some ⟨oc_lref, od_lref, .func (PySem.W.fnOf "_law_refused" "_law_refused" (defArgs sLRefused) (defBody sLRefused) (defScope sLRefused) .none kV_lref dc_lref pm_lref an_lref cd_lref ct_lref), sl_lref⟩)
    (c_lref : PySem.W.codeIn K cd_lref "_law_refused" = true)
    (k_lref : PySem.W.keepIn K (.ref f_lref) = true)
    (a_law : PySem.W.nsIn K mainGlobals "law" = some (some (.ref f_law)))
    (l_law : K.lookup f_law = some ⟨oc_law, od_law, .func (PySem.W.fnOf "law" "law" (defArgs sLaw) (defBody sLaw) (defScope sLaw) .none kV_law dc_law pm_law an_law cd_law ct_law), sl_law⟩)
    (c_law : PySem.W.codeIn K cd_law "law" = true)
    (k_law : PySem.W.keepIn K (.ref f_law) = true)
    (a_pinit : PySem.W.findIn K (.ref C) "__init__" = some (some (.ref f_pinit)))
    (i_pinit : PySem.W.isFn K (.ref f_pinit) = true)
    (l_pinit : K.lookup f_pinit = some ⟨oc_pinit, od_pinit, .func (PySem.W.fnOf "__init__" "Plan.__init__" (defArgs sPInit) (defBody sPInit) (defScope sPInit) .none kV_pinit dc_pinit pm_pinit an_pinit cd_pinit ct_pinit), sl_pinit⟩)
    (c_pinit : PySem.W.codeIn K cd_pinit "Plan.__init__" = true)
    (k_pinit : PySem.W.keepIn K (.ref f_pinit) = true)
    (a_peq : PySem.W.findIn K (.ref C) "__eq__" = some (some (.ref f_peq)))
    (i_peq : PySem.W.isFn K (.ref f_peq) = true)
    (l_peq : K.lookup f_peq = some ⟨oc_peq, od_peq, .func (PySem.W.fnOf "__eq__" "Plan.__eq__" (defArgs sPEq) (defBody sPEq) (defScope sPEq) .none kV_peq dc_peq pm_peq an_peq cd_peq ct_peq), sl_peq⟩)
    (c_peq : PySem.W.codeIn K cd_peq "Plan.__eq__" = true)
    (k_peq : PySem.W.keepIn K (.ref f_peq) = true)
    (a_regs : PySem.W.findIn K (.ref C) "registers" = some (some (.ref f_regs)))
    (i_regs : PySem.W.isFn K (.ref f_regs) = true)
    (l_regs : K.lookup f_regs = some ⟨oc_regs, od_regs, .func (PySem.W.fnOf "registers" "Plan.registers" (defArgs sRegs) (defBody sRegs) (defScope sRegs) .none kV_regs dc_regs pm_regs an_regs cd_regs ct_regs), sl_regs⟩)
    (c_regs : PySem.W.codeIn K cd_regs "Plan.registers" = true)
    (k_regs : PySem.W.keepIn K (.ref f_regs) = true)
    (a_beat : PySem.W.findIn K (.ref C) "beat" = some (some (.ref f_beat)))
    (i_beat : PySem.W.isFn K (.ref f_beat) = true)
    (l_beat : K.lookup f_beat = some ⟨oc_beat, od_beat, .func (PySem.W.fnOf "beat" "Plan.beat" (defArgs sBeat) (defBody sBeat) (defScope sBeat) .none kV_beat dc_beat pm_beat an_beat cd_beat ct_beat), sl_beat⟩)
    (c_beat : PySem.W.codeIn K cd_beat "Plan.beat" = true)
    (k_beat : PySem.W.keepIn K (.ref f_beat) = true)
    (a_winit : PySem.W.findIn K (.ref CW) "__init__" = some (some (.ref f_winit)))
    (i_winit : PySem.W.isFn K (.ref f_winit) = true)
    (l_winit : K.lookup f_winit = some ⟨oc_winit, od_winit, .func (PySem.W.fnOf "__init__" "Ways.__init__" (defArgs sWInit) (defBody sWInit) (defScope sWInit) .none kV_winit dc_winit pm_winit an_winit cd_winit ct_winit), sl_winit⟩)
    (c_winit : PySem.W.codeIn K cd_winit "Ways.__init__" = true)
    (k_winit : PySem.W.keepIn K (.ref f_winit) = true)
    (a_ext : PySem.W.findIn K (.ref CW) "extend" = some (some (.ref f_ext)))
    (i_ext : PySem.W.isFn K (.ref f_ext) = true)
    (l_ext : K.lookup f_ext = some ⟨oc_ext, od_ext, .func (PySem.W.fnOf "extend" "Ways.extend" (defArgs sExtend) (defBody sExtend) (defScope sExtend) .none kV_ext dc_ext pm_ext an_ext cd_ext ct_ext), sl_ext⟩)
    (c_ext : PySem.W.codeIn K cd_ext "Ways.extend" = true)
    (k_ext : PySem.W.keepIn K (.ref f_ext) = true)
    (a_lim : PySem.W.findIn K (.ref CW) "limits" = some (some (.ref f_lim)))
    (i_lim : PySem.W.isFn K (.ref f_lim) = true)
    (l_lim : K.lookup f_lim = some ⟨oc_lim, od_lim, .func (PySem.W.fnOf "limits" "Ways.limits" (defArgs sLimits) (defBody sLimits) (defScope sLimits) .none kV_lim dc_lim pm_lim an_lim cd_lim ct_lim), sl_lim⟩)
    (c_lim : PySem.W.codeIn K cd_lim "Ways.limits" = true)
    (k_lim : PySem.W.keepIn K (.ref f_lim) = true)
    (pg_C : PySem.W.plainGet K C Str.empty = true)
    (hd_C : PySem.W.hasDictIn K C = true)
    (po_C : PySem.W.plainOver K C = true)
    (sa_C : PySem.W.findIn K (.ref C) "__setattr__" = some (some (.builtin "object.__setattr__")))
    (mk_C : PySem.W.makesIn K C = true)
    (kc_C : PySem.W.keepIn K (.ref C) = true)
    (pg_CW : PySem.W.plainGet K CW Str.empty = true)
    (hd_CW : PySem.W.hasDictIn K CW = true)
    (po_CW : PySem.W.plainOver K CW = true)
    (sa_CW : PySem.W.findIn K (.ref CW) "__setattr__" = some (some (.builtin "object.__setattr__")))
    (mk_CW : PySem.W.makesIn K CW = true)
    (kc_CW : PySem.W.keepIn K (.ref CW) = true)
    (n_D : PySem.W.findIn K (.ref C) "delays" = some none)
    (n_W : PySem.W.findIn K (.ref C) "wires" = some none)
    (n_P : PySem.W.findIn K (.ref CW) "plan" = some none)
    (n_B : PySem.W.findIn K (.ref CW) "best" = some none)
    (i_ha : PySem.W.findIn K (.ref C) "__class__" = some (some (.builtin "object.__class__")))
    (i_hn : PySem.W.specialIn K (.builtin "object.__class__") "__get__" = some (some (.builtin "getset_descriptor.__get__")))
    (i_htk : PySem.W.takesIn K (.builtin "object.__class__") = some true)
    (i_hm : PySem.W.mroIn K C (.type "object") = some true)
    (i_ic : PySem.W.isClsIn K C = true)
    (i_it : PySem.W.typeIn K (.ref C) = some (.type "type"))
    (x_CB : PySem.W.excIn K CB [.type "ValueError", .type "Exception", .type "BaseException", .type "object"] "ValueError.__new__" = true)
    (xk_CB : PySem.W.keepIn K (.ref CB) = true)
    (xb_CB : PySem.W.subIn K (.ref CB) (.type "BaseException") = some true)
    (xt_CB : PySem.W.typeIn K (.ref CB) = some (.type "type"))
    (xi_CB : PySem.W.isClsIn K CB = true)
    (xs_CB : PySem.W.subIn K (.ref CB) (.ref CB) = some true)
    (x_CN : PySem.W.excIn K CN [.type "ValueError", .type "Exception", .type "BaseException", .type "object"] "ValueError.__new__" = true)
    (xk_CN : PySem.W.keepIn K (.ref CN) = true)
    (xb_CN : PySem.W.subIn K (.ref CN) (.type "BaseException") = some true)
    (xt_CN : PySem.W.typeIn K (.ref CN) = some (.type "type"))
    (xi_CN : PySem.W.isClsIn K CN = true)
    (xs_CN : PySem.W.subIn K (.ref CN) (.ref CN) = some true)
    (e_ne : PySem.W.findIn K (.ref C) "__ne__" = some (some (.builtin "object.__ne__")))
    (e_ob : PySem.W.subIn K (.ref C) (.type "object") = some true)
    (z_isinstance : PySem.W.nsIn K mainGlobals "isinstance" = some none)
    (z_int : PySem.W.nsIn K mainGlobals "int" = some none)
    (z_bool : PySem.W.nsIn K mainGlobals "bool" = some none)
    (z_str : PySem.W.nsIn K mainGlobals "str" = some none)
    (z_len : PySem.W.nsIn K mainGlobals "len" = some none)
    (z_all : PySem.W.nsIn K mainGlobals "all" = some none)
    (z_list : PySem.W.nsIn K mainGlobals "list" = some none)
    (z_dict : PySem.W.nsIn K mainGlobals "dict" = some none)
    (z_tuple : PySem.W.nsIn K mainGlobals "tuple" = some none)
    (z_sorted : PySem.W.nsIn K mainGlobals "sorted" = some none)
    (z_max : PySem.W.nsIn K mainGlobals "max" = some none)
    (z_min : PySem.W.nsIn K mainGlobals "min" = some none)
    (z_zip : PySem.W.nsIn K mainGlobals "zip" = some none)
    (z_range : PySem.W.nsIn K mainGlobals "range" = some none)
    (z_enumerate : PySem.W.nsIn K mainGlobals "enumerate" = some none)
    (z_reversed : PySem.W.nsIn K mainGlobals "reversed" = some none)
    : ∃ fd : FuncData, (∀ (s : Shared) (v : Value), BindsTo s fd ⟨[v], []⟩ [("_law_script", v)]) ∧ ∀ base : Heap, K.In base → base.Ns mainGlobals mg → FnOk l.prog w K mg base CX0 6 fa fd ["_law_script"] (spLaw K) := by
  have e := hfa.symm.trans (PySem.W.mg_of X G a_law)
  cases e
  have B : Bt mg := ⟨PySem.W.mg_none_of X G z_isinstance, PySem.W.mg_none_of X G z_int, PySem.W.mg_none_of X G z_bool, PySem.W.mg_none_of X G z_str, PySem.W.mg_none_of X G z_len, PySem.W.mg_none_of X G z_all, PySem.W.mg_none_of X G z_list, PySem.W.mg_none_of X G z_dict, PySem.W.mg_none_of X G z_tuple, PySem.W.mg_none_of X G z_sorted, PySem.W.mg_none_of X G z_max, PySem.W.mg_none_of X G z_min, PySem.W.mg_none_of X G z_zip, PySem.W.mg_none_of X G z_range, PySem.W.mg_none_of X G z_enumerate, PySem.W.mg_none_of X G z_reversed⟩
  have T : PTxt K C := ⟨⟨pg_C, hd_C, po_C, sa_C⟩, n_D, n_W⟩
  have U : WTxt K CW := ⟨⟨pg_CW, hd_CW, po_CW, sa_CW⟩, n_P, n_B⟩
  have I : ITxt K mg C := ⟨PySem.W.mg_of X G a_C, i_ha, i_hn, i_htk, i_hm, kit_same, kit_int i_ic i_it⟩
  have XB : XTxt K mg "BadPlan" CB := ⟨PySem.W.mg_of X G a_CB, x_CB, xk_CB, xb_CB, xt_CB, exm_self xb_CB xi_CB xt_CB xs_CB⟩
  have XN : XTxt K mg "NoPlacing" CN := ⟨PySem.W.mg_of X G a_CN, x_CN, xk_CN, xb_CN, xt_CN, exm_self xb_CN xi_CN xt_CN xs_CN⟩
  have hO : ∃ t, mg "OUT" = some (.str "out" t) := ⟨tO, PySem.W.mg_of X G a_OUT⟩
  have F_isnum := fun_mk (st := sIsNum) l_isnum c_isnum k_isnum
  have F_isword := fun_mk (st := sIsWord) l_isword c_isword k_isword
  have F_ring := fun_mk (st := sRingIn) l_ring c_ring k_ring
  have F_placed := fun_mk (st := sPlaced) l_placed c_placed k_placed
  have F_check := fun_mk (st := sCheck) l_check c_check k_check
  have F_wb := fun_mk (st := sWithBeat) l_wb c_wb k_wb
  have F_draw := fun_mk (st := sDraw) l_draw c_draw k_draw
  have F_lplan := fun_mk (st := sLPlan) l_lplan c_lplan k_lplan
  have F_lbeat := fun_mk (st := sLBeat) l_lbeat c_lbeat k_lbeat
  have F_lring := fun_mk (st := sLRing) l_lring c_lring k_lring
  have F_lref := fun_mk (st := sLRefused) l_lref c_lref k_lref
  have F_law := fun_mk (st := sLaw) l_law c_law k_law
  have F_pinit := fun_mk (st := sPInit) l_pinit c_pinit k_pinit
  have m_pinit : Meth K C "__init__" f_pinit := ⟨a_pinit, i_pinit, k_pinit⟩
  have F_peq := fun_mk (st := sPEq) l_peq c_peq k_peq
  have m_peq : Meth K C "__eq__" f_peq := ⟨a_peq, i_peq, k_peq⟩
  have F_regs := fun_mk (st := sRegs) l_regs c_regs k_regs
  have m_regs : Meth K C "registers" f_regs := ⟨a_regs, i_regs, k_regs⟩
  have F_beat := fun_mk (st := sBeat) l_beat c_beat k_beat
  have m_beat : Meth K C "beat" f_beat := ⟨a_beat, i_beat, k_beat⟩
  have F_winit := fun_mk (st := sWInit) l_winit c_winit k_winit
  have m_winit : Meth K CW "__init__" f_winit := ⟨a_winit, i_winit, k_winit⟩
  have F_ext := fun_mk (st := sExtend) l_ext c_ext k_ext
  have m_ext : Meth K CW "extend" f_ext := ⟨a_ext, i_ext, k_ext⟩
  have F_lim := fun_mk (st := sLimits) l_lim c_lim k_lim
  have m_lim : Meth K CW "limits" f_lim := ⟨a_lim, i_lim, k_lim⟩
  have b_isnum := F_isnum.binds (ps := ["thing"]) fun _ _ _ _ _ _ us hl => match us, hl with | [_], _ => rfl
  have b_isword := F_isword.binds (ps := ["thing"]) fun _ _ _ _ _ _ us hl => match us, hl with | [_], _ => rfl
  have b_ring := F_ring.binds (ps := ["bare"]) fun _ _ _ _ _ _ us hl => match us, hl with | [_], _ => rfl
  have b_placed := F_placed.binds (ps := ["plan", "limits"]) fun _ _ _ _ _ _ us hl => match us, hl with | [_, _], _ => rfl
  have b_check := F_check.binds (ps := ["thing"]) fun _ _ _ _ _ _ us hl => match us, hl with | [_], _ => rfl
  have b_wb := F_wb.binds (ps := ["plan", "beat"]) fun _ _ _ _ _ _ us hl => match us, hl with | [_, _], _ => rfl
  have b_draw := F_draw.binds (ps := ["_law_script", "_law_at", "_law_many"]) fun _ _ _ _ _ _ us hl => match us, hl with | [_, _, _], _ => rfl
  have b_lplan := F_lplan.binds (ps := ["_law_script", "_law_at"]) fun _ _ _ _ _ _ us hl => match us, hl with | [_, _], _ => rfl
  have b_lbeat := F_lbeat.binds (ps := ["_law_delays", "_law_wires", "_law_moves"]) fun _ _ _ _ _ _ us hl => match us, hl with | [_, _, _], _ => rfl
  have b_lring := F_lring.binds (ps := ["_law_bare"]) fun _ _ _ _ _ _ us hl => match us, hl with | [_], _ => rfl
  have b_lref := F_lref.binds (ps := ["_law_delays", "_law_wires"]) fun _ _ _ _ _ _ us hl => match us, hl with | [_, _], _ => rfl
  have b_pinit := F_pinit.binds (ps := ["self", "delays", "wires"]) fun _ _ _ _ _ _ us hl => match us, hl with | [_, _, _], _ => rfl
  have b_peq := F_peq.binds (ps := ["self", "other"]) fun _ _ _ _ _ _ us hl => match us, hl with | [_, _], _ => rfl
  have b_regs := F_regs.binds (ps := ["self", "moves"]) fun _ _ _ _ _ _ us hl => match us, hl with | [_, _], _ => rfl
  have b_beat := F_beat.binds (ps := ["self", "moves"]) fun _ _ _ _ _ _ us hl => match us, hl with | [_, _], _ => rfl
  have b_winit := F_winit.binds (ps := ["self", "plan"]) fun _ _ _ _ _ _ us hl => match us, hl with | [_, _], _ => rfl
  have b_ext := F_ext.binds (ps := ["self", "here", "there", "rest"]) fun _ _ _ _ _ _ us hl => match us, hl with | [_, _, _, _], _ => rfl
  have b_lim := F_lim.binds (ps := ["self", "beat"]) fun _ _ _ _ _ _ us hl => match us, hl with | [_, _], _ => rfl
  refine ⟨PySem.W.fnOf "law" "law" (defArgs sLaw) (defBody sLaw) (defScope sLaw) .none kV_law dc_law pm_law an_law cd_law ct_law, fun s v => .of_eq rfl, fun base _ _ => ?_⟩
  have GB : FnOk l.prog w K mg base CX0 2 f_beat _ ["self", "moves"] (spBeat C) := ok_beat F_beat B T hO F_regs b_regs m_regs F_ring b_ring (PySem.W.mg_of X G a_ring)
  have GI : FnOk l.prog w K mg base (L2.CX l.prog w) 3 f_pinit _ ["self", "delays", "wires"] (spPInit C CB) := ok_pinit F_pinit B T hO XB F_isword b_isword (PySem.W.mg_of X G a_isword) F_isnum b_isnum (PySem.W.mg_of X G a_isnum) GB b_beat m_beat
  have GW : FnOk l.prog w K mg base CX0 2 f_winit _ ["self", "plan"] (spWInit C CW) := ok_winit F_winit B T U hO F_ext b_ext m_ext
  have MC : Mk K C f_pinit := ⟨mk_C, a_pinit, i_pinit, kc_C⟩
  have MW : Mk K CW f_winit := ⟨mk_CW, a_winit, i_winit, kc_CW⟩
  exact ok_law F_law ⟨B, T, I, XB, XN, MC, ok_draw F_draw B, b_draw, PySem.W.mg_of X G a_draw, k_draw, ok_lplan F_lplan B F_draw b_draw (PySem.W.mg_of X G a_draw), b_lplan, PySem.W.mg_of X G a_lplan, k_lplan,
    ok_lbeat F_lbeat B F_lring b_lring (PySem.W.mg_of X G a_lring), b_lbeat, PySem.W.mg_of X G a_lbeat, k_lbeat, ok_lrefused F_lref I XB MC GI b_pinit, b_lref, PySem.W.mg_of X G a_lref, k_lref, GI, b_pinit, GB, b_beat, m_beat, ok_regs F_regs T, b_regs, m_regs, ok_peq F_peq B T I, b_peq, a_peq, i_peq, e_ne, e_ob,
    ok_withbeat F_wb B T U I XB XN F_check b_check (PySem.W.mg_of X G a_check) F_isnum b_isnum (PySem.W.mg_of X G a_isnum) F_placed b_placed (PySem.W.mg_of X G a_placed) F_lim b_lim m_lim GW b_winit MW (PySem.W.mg_of X G a_CW), b_wb, PySem.W.mg_of X G a_wb, k_wb⟩
theorem walk {l : PySem.W.OpenLaw} {q : Program} {loose : List Str} {XP : (Str → Option Value) → Heap → Prop} {YP : World → Heap → Prop} {d : DefRec} {K : Params → PySem.W.Frag} (hn : l.most = some 63) (hdf : d.params.defaults = [])
    (hY : ∀ (w : World) (h : Heap), YP w h → (K w.params).In h)
    (F : ∀ (w : World) (mg : Str → Option Value) (fa : Addr) (h : Heap), (K w.params).In h → h.Ns mainGlobals mg → mg d.name = some (.ref fa) →
      ∃ fd : FuncData, (∀ (s : Shared) (u : Value), BindsTo s fd ⟨[u], []⟩ [("_law_script", u)]) ∧ ∀ base : Heap, (K w.params).In base → base.Ns mainGlobals mg → FnOk l.prog w (K w.params) mg base CX0 6 fa fd ["_law_script"] (spLaw (K w.params))) :
    PySem.W.WalkO q loose XP YP l.row.toRowW d [] (fun f vs => PySem.call f vs) :=
  L2.walk_of (n := 63) (k := 6) (x := "_law_script") (CX := fun _ => CX0) (sp := fun w => spLaw (K w.params)) hn (by decide) hdf ⟨rfl, by decide, by decide⟩ hY F (fun _ _ a ns hl _ hS => ⟨a, rfl, ⟨ns, hS, hl⟩, fun _ => rfl⟩) fun _ _ _ _ _ z => z
end Bw

open PySem PySem.W PyProof.Rows in
set_option maxRecDepth 100000 in
set_option maxHeartbeats 0 in
theorem PySem.Challenge.cw_beatwires_k11_whole_plans_holds : PySem.Challenge.rw_beatwires_k11_whole_plans.Holds := by
  w_on; o_law; k_head; (case hw => w_witness2)
  k_fill
  refine Bw.walk (l := PySem.Challenge.rw_beatwires_k11_whole_plans) rfl rfl (fun w h Y => PySem.W.kIn_of Y) ?F
  case F =>
    intro w mg fa h KX G hmg
    refine' Bw.all_mk KX G hmg ?a_C ?a_CW ?a_CB ?a_CN ?a_OUT ?a_isnum ?l_isnum ?c_isnum ?k_isnum ?a_isword ?l_isword ?c_isword ?k_isword ?a_ring ?l_ring ?c_ring ?k_ring ?a_placed ?l_placed ?c_placed ?k_placed ?a_check ?l_check ?c_check ?k_check ?a_wb ?l_wb ?c_wb ?k_wb ?a_draw ?l_draw ?c_draw ?k_draw ?a_lplan ?l_lplan ?c_lplan ?k_lplan ?a_lbeat ?l_lbeat ?c_lbeat ?k_lbeat ?a_lring ?l_lring ?c_lring ?k_lring ?a_lref ?l_lref ?c_lref ?k_lref ?a_law ?l_law ?c_law ?k_law ?a_pinit ?i_pinit ?l_pinit ?c_pinit ?k_pinit ?a_peq ?i_peq ?l_peq ?c_peq ?k_peq ?a_regs ?i_regs ?l_regs ?c_regs ?k_regs ?a_beat ?i_beat ?l_beat ?c_beat ?k_beat ?a_winit ?i_winit ?l_winit ?c_winit ?k_winit ?a_ext ?i_ext ?l_ext ?c_ext ?k_ext ?a_lim ?i_lim ?l_lim ?c_lim ?k_lim ?pg_C ?hd_C ?po_C ?sa_C ?mk_C ?kc_C ?pg_CW ?hd_CW ?po_CW ?sa_CW ?mk_CW ?kc_CW ?n_D ?n_W ?n_P ?n_B ?i_ha ?i_hn ?i_htk ?i_hm ?i_ic ?i_it ?x_CB ?xk_CB ?xb_CB ?xt_CB ?xi_CB ?xs_CB ?x_CN ?xk_CN ?xb_CN ?xt_CN ?xi_CN ?xs_CN ?e_ne ?e_ob ?z_isinstance ?z_int ?z_bool ?z_str ?z_len ?z_all ?z_list ?z_dict ?z_tuple ?z_sorted ?z_max ?z_min ?z_zip ?z_range ?z_enumerate ?z_reversed
    (case a_C => k_is)
    (case a_CW => k_is)
    (case a_CB => k_is)
    (case a_CN => k_is)
    (case a_OUT => k_is)
    (case a_isnum => k_is)
    (case l_isnum => k_is)
    (case c_isnum => k_is)
    (case k_isnum => k_is)
    (case a_isword => k_is)
    (case l_isword => k_is)
    (case c_isword => k_is)
    (case k_isword => k_is)
    (case a_ring => k_is)
    (case l_ring => k_is)
    (case c_ring => k_is)
    (case k_ring => k_is)
    (case a_placed => k_is)
    (case l_placed => k_is)
    (case c_placed => k_is)
    (case k_placed => k_is)
    (case a_check => k_is)
    (case l_check => k_is)
    (case c_check => k_is)
    (case k_check => k_is)
    (case a_wb => k_is)
    (case l_wb => k_is)
    (case c_wb => k_is)
    (case k_wb => k_is)
    (case a_draw => k_is)
    (case l_draw => k_is)
    (case c_draw => k_is)
    (case k_draw => k_is)
    (case a_lplan => k_is)
    (case l_lplan => k_is)
    (case c_lplan => k_is)
    (case k_lplan => k_is)
    (case a_lbeat => k_is)
    (case l_lbeat => k_is)
    (case c_lbeat => k_is)
    (case k_lbeat => k_is)
    (case a_lring => k_is)
    (case l_lring => k_is)
    (case c_lring => k_is)
    (case k_lring => k_is)
    (case a_lref => k_is)
    (case l_lref => k_is)
    (case c_lref => k_is)
    (case k_lref => k_is)
    (case a_law => k_is)
    (case l_law => k_is)
    (case c_law => k_is)
    (case k_law => k_is)
    (case a_pinit => k_is)
    (case i_pinit => k_is)
    (case l_pinit => k_is)
    (case c_pinit => k_is)
    (case k_pinit => k_is)
    (case a_peq => k_is)
    (case i_peq => k_is)
    (case l_peq => k_is)
    (case c_peq => k_is)
    (case k_peq => k_is)
    (case a_regs => k_is)
    (case i_regs => k_is)
    (case l_regs => k_is)
    (case c_regs => k_is)
    (case k_regs => k_is)
    (case a_beat => k_is)
    (case i_beat => k_is)
    (case l_beat => k_is)
    (case c_beat => k_is)
    (case k_beat => k_is)
    (case a_winit => k_is)
    (case i_winit => k_is)
    (case l_winit => k_is)
    (case c_winit => k_is)
    (case k_winit => k_is)
    (case a_ext => k_is)
    (case i_ext => k_is)
    (case l_ext => k_is)
    (case c_ext => k_is)
    (case k_ext => k_is)
    (case a_lim => k_is)
    (case i_lim => k_is)
    (case l_lim => k_is)
    (case c_lim => k_is)
    (case k_lim => k_is)
    (case pg_C => k_is)
    (case hd_C => k_is)
    (case po_C => k_is)
    (case sa_C => k_is)
    (case mk_C => k_is)
    (case kc_C => k_is)
    (case pg_CW => k_is)
    (case hd_CW => k_is)
    (case po_CW => k_is)
    (case sa_CW => k_is)
    (case mk_CW => k_is)
    (case kc_CW => k_is)
    (case n_D => k_is)
    (case n_W => k_is)
    (case n_P => k_is)
    (case n_B => k_is)
    (case i_ha => k_is)
    (case i_hn => k_is)
    (case i_htk => k_is)
    (case i_hm => k_is)
    (case i_ic => k_is)
    (case i_it => k_is)
    (case x_CB => k_exc)
    (case xk_CB => k_is)
    (case xb_CB => k_is)
    (case xt_CB => k_is)
    (case xi_CB => k_is)
    (case xs_CB => first | rfl | k_is)
    (case x_CN => k_exc)
    (case xk_CN => k_is)
    (case xb_CN => k_is)
    (case xt_CN => k_is)
    (case xi_CN => k_is)
    (case xs_CN => first | rfl | k_is)
    (case e_ne => k_is)
    (case e_ob => k_is)
    (case z_isinstance => k_is)
    (case z_int => k_is)
    (case z_bool => k_is)
    (case z_str => k_is)
    (case z_len => k_is)
    (case z_all => k_is)
    (case z_list => k_is)
    (case z_dict => k_is)
    (case z_tuple => k_is)
    (case z_sorted => k_is)
    (case z_max => k_is)
    (case z_min => k_is)
    (case z_zip => k_is)
    (case z_range => k_is)
    (case z_enumerate => k_is)
    (case z_reversed => k_is)
#print axioms PySem.Challenge.cw_beatwires_k11_whole_plans_holds
