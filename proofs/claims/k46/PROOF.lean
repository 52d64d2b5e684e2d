import PyProof.Rows.All
import Wide.All
import OpenK.AllK
import Wide.FinOn
import HandS.ForMost
import HandS.Evl
import HandS.IsInst
import HandS.Deep
import HandS.Strs
import HandS.SetFor
import HandS.TupSets
import HandS.Conv
import HandS.Zip
import HandS.Flow
import KE.KDictWalk
import PySem.Challenge.RW_farhail_k46_whole_strengths_by_parters
set_option autoImplicit false
set_option linter.all false
namespace Fx

/-! ### least numbers -/
theorem least_of {P : Nat → Prop} : ∀ k, P k → ∃ m, P m ∧ (∀ j, j < m → ¬ P j) := by
  intro k
  induction k using Nat.strongRecOn with
  | _ k ih =>
    intro hk
    by_cases h : ∃ j, j < k ∧ P j
    · obtain ⟨j, hj, pj⟩ := h
      exact ih j hj pj
    · exact ⟨k, hk, fun j hj pj => h ⟨j, hj, pj⟩⟩
open Classical in
noncomputable def lst (P : Nat → Prop) : Nat := if h : ∃ m, P m ∧ (∀ j, j < m → ¬ P j) then Classical.choose h else 0
theorem lst_ok {P : Nat → Prop} {k : Nat} (h : P k) : P (lst P) ∧ ∀ j, j < lst P → ¬ P j := by
  have e := least_of k h
  unfold lst
  rw [dif_pos e]
  exact Classical.choose_spec e
theorem lst_le {P : Nat → Prop} {k : Nat} (h : P k) : lst P ≤ k := by
  have ⟨_, h2⟩ := lst_ok h
  by_cases q : k < lst P
  · exact absurd h (h2 k q)
  · omega

/-! ### webs -/
structure Web where
  n : Nat
  es : List (Nat × Nat)
def Web.adj (W : Web) (u v : Nat) : Prop := (u, v) ∈ W.es ∨ (v, u) ∈ W.es
instance (W : Web) (u v : Nat) : Decidable (W.adj u v) := inferInstanceAs (Decidable (_ ∨ _))
structure Web.Ok (W : Web) : Prop where
  pos : 1 ≤ W.n
  le : W.n ≤ 7
  nd : W.es.Nodup
  lt : ∀ p, p ∈ W.es → p.1 < p.2 ∧ p.2 < W.n
  conn : ∀ S : Nat → Prop, S 0 → (∀ u v, W.adj u v → S u → S v) → ∀ v, v < W.n → S v
variable {W : Web}
theorem Web.adj.symm {u v : Nat} (h : W.adj u v) : W.adj v u := Or.symm h
theorem Web.Ok.adjLt (ok : W.Ok) {u v : Nat} (h : W.adj u v) : u < W.n ∧ v < W.n ∧ u ≠ v := by
  rcases h with h | h
  · have := ok.lt _ h
    simp only at this
    omega
  · have := ok.lt _ h
    simp only at this
    omega
theorem Web.Ok.connAt (ok : W.Ok) {r : Nat} (hr : r < W.n) (S : Nat → Prop) (h0 : S r) (hs : ∀ u v, W.adj u v → S u → S v) : ∀ v, v < W.n → S v := by
  have s0 : S 0 := by
    by_cases h : S 0
    · exact h
    · exact absurd h0 (ok.conn (fun v => ¬ S v) h (fun u v a nu sv => nu (hs v u a.symm sv)) r hr)
  exact ok.conn S s0 hs

/-! ### how far -/
def Web.Reach (W : Web) (r : Nat) : Nat → Nat → Prop
  | 0, v => v = r
  | k + 1, v => W.Reach r k v ∨ ∃ u, W.adj u v ∧ W.Reach r k u
noncomputable def Web.D (W : Web) (r v : Nat) : Nat := lst fun k => W.Reach r k v
structure Web.IsD (W : Web) (r : Nat) (f : Nat → Nat) : Prop where
  zero : f r = 0
  near : ∀ u v, W.adj u v → f v ≤ f u + 1
  back : ∀ v, v < W.n → v ≠ r → ∃ u, W.adj u v ∧ f u + 1 = f v
theorem Web.Ok.reach (ok : W.Ok) {r : Nat} (hr : r < W.n) : ∀ v, v < W.n → ∃ k, W.Reach r k v :=
  ok.connAt hr (fun v => ∃ k, W.Reach r k v) ⟨0, rfl⟩ fun u v a ⟨k, h⟩ => ⟨k + 1, Or.inr ⟨u, a, h⟩⟩
theorem Web.Ok.isD (ok : W.Ok) {r : Nat} (hr : r < W.n) : W.IsD r (W.D r) := by
  have ex := ok.reach hr
  have hn : ∀ u v, W.adj u v → W.D r v ≤ W.D r u + 1 := fun u v a => by
    obtain ⟨k, hk⟩ := ex u (ok.adjLt a).1
    exact lst_le (P := fun k => W.Reach r k v) (Or.inr ⟨u, a, (lst_ok (P := fun k => W.Reach r k u) hk).1⟩)
  refine ⟨?_, hn, fun v hv hne => ?_⟩
  · have := lst_le (P := fun k => W.Reach r k r) (k := 0) rfl
    unfold Web.D
    omega
  · obtain ⟨k, hk⟩ := ex v hv
    have ⟨h1, h2⟩ := lst_ok (P := fun k => W.Reach r k v) hk
    have e : W.D r v = lst fun k => W.Reach r k v := rfl
    cases q : W.D r v with
    | zero =>
      rw [← e, q] at h1
      exact absurd h1 hne
    | succ m =>
      rw [← e, q] at h1 h2
      rcases h1 with h1 | ⟨u, a, h1⟩
      · exact absurd h1 (h2 m (Nat.lt_succ_self m))
      · refine ⟨u, a, ?_⟩
        have l1 : W.D r u ≤ m := lst_le (P := fun k => W.Reach r k u) h1
        have l2 := hn u v a
        omega
theorem Web.IsD.le (ok : W.Ok) {r : Nat} {f g : Nat → Nat} (F : W.IsD r f) (G : W.IsD r g) : ∀ k v, v < W.n → g v = k → f v ≤ k := by
  intro k
  induction k with
  | zero =>
    intro v hv e
    by_cases h : v = r
    · rw [h, F.zero]
      exact Nat.le_refl _
    · obtain ⟨u, _, q⟩ := G.back v hv h
      omega
  | succ k ih =>
    intro v hv e
    by_cases h : v = r
    · rw [h, F.zero]
      exact Nat.zero_le _
    · obtain ⟨u, a, q⟩ := G.back v hv h
      have h1 := ih u (ok.adjLt a).1 (by omega)
      have h2 := F.near u v a
      omega
theorem Web.IsD.eq (ok : W.Ok) {r : Nat} {f : Nat → Nat} (hr : r < W.n) (F : W.IsD r f) : ∀ v, v < W.n → f v = W.D r v := fun v hv =>
  Nat.le_antisymm (F.le ok (ok.isD hr) _ v hv rfl) ((ok.isD hr).le ok F _ v hv rfl)
theorem Web.Ok.tri (ok : W.Ok) {a b : Nat} (ha : a < W.n) (hb : b < W.n) : ∀ k v, v < W.n → W.D b v = k → W.D a v ≤ W.D a b + k := by
  intro k
  induction k with
  | zero =>
    intro v hv e
    by_cases h : v = b
    · rw [h]
      exact Nat.le_refl _
    · obtain ⟨u, _, q⟩ := (ok.isD hb).back v hv h
      omega
  | succ k ih =>
    intro v hv e
    by_cases h : v = b
    · rw [h]
      omega
    · obtain ⟨u, x, q⟩ := (ok.isD hb).back v hv h
      have h1 := ih u (ok.adjLt x).1 (by omega)
      have h2 := (ok.isD ha).near u v x
      omega
theorem Web.Ok.one (ok : W.Ok) {a b : Nat} (h : W.adj a b) : W.D a b ≤ 1 := by
  have h1 := (ok.isD (ok.adjLt h).1).near a b h
  rw [(ok.isD (ok.adjLt h).1).zero] at h1
  exact h1
theorem Web.Ok.symm1 (ok : W.Ok) : ∀ k a b, a < W.n → b < W.n → W.D b a = k → W.D a b ≤ k := by
  intro k
  induction k with
  | zero =>
    intro a b ha hb e
    by_cases h : a = b
    · rw [h, (ok.isD hb).zero]
      exact Nat.le_refl _
    · obtain ⟨u, _, q⟩ := (ok.isD hb).back a ha h
      omega
  | succ k ih =>
    intro a b ha hb e
    by_cases h : a = b
    · rw [h, (ok.isD hb).zero]
      omega
    · obtain ⟨u, x, q⟩ := (ok.isD hb).back a ha h
      have hu := (ok.adjLt x).1
      have h1 := ih u b hu hb (by omega)
      have h2 := ok.tri ha hu _ b hb rfl
      have h3 := ok.one x.symm
      omega
theorem Web.Ok.symm (ok : W.Ok) {a b : Nat} (ha : a < W.n) (hb : b < W.n) : W.D a b = W.D b a :=
  Nat.le_antisymm (ok.symm1 _ a b ha hb rfl) (ok.symm1 _ b a hb ha rfl)
theorem Web.Ok.refl0 (ok : W.Ok) {a : Nat} (ha : a < W.n) : W.D a a = 0 := (ok.isD ha).zero
theorem Web.Ok.pos_of_ne (ok : W.Ok) {a b : Nat} (ha : a < W.n) (hb : b < W.n) (h : a ≠ b) : 0 < W.D a b := by
  obtain ⟨u, _, q⟩ := (ok.isD ha).back b hb (Ne.symm h)
  omega
/-- a neighbour that is nearer to y -/
theorem Web.Ok.step (ok : W.Ok) {p y : Nat} (hp : p < W.n) (hy : y < W.n) (h : 0 < W.D y p) : ∃ b, W.adj p b ∧ W.D y b + 1 = W.D y p := by
  have hne : p ≠ y := fun e => by
    rw [e, ok.refl0 hy] at h
    omega
  obtain ⟨u, a, q⟩ := (ok.isD hy).back p hp hne
  exact ⟨u, a.symm, q⟩

/-! ### unlike things of a list -/
theorem nd_len {α : Type} [DecidableEq α] : ∀ {l m : List α}, l.Nodup → (∀ x, x ∈ l → x ∈ m) → l.length ≤ m.length := by
  intro l
  induction l with
  | nil =>
    intro m _ _
    exact Nat.zero_le _
  | cons a l ih =>
    intro m hn hs
    have ha : a ∈ m := hs a List.mem_cons_self
    have hn' := List.nodup_cons.mp hn
    have h1 : l.length ≤ (m.erase a).length := ih hn'.2 fun x hx => by
      have hx' : x ≠ a := fun e => hn'.1 (e ▸ hx)
      exact (List.mem_erase_of_ne hx').mpr (hs x (List.mem_cons_of_mem _ hx))
    rw [List.length_erase_of_mem ha] at h1
    have : 0 < m.length := List.length_pos_of_mem ha
    simp only [List.length_cons]
    omega
theorem nd_all {α : Type} [DecidableEq α] {l m : List α} (hn : l.Nodup) (hs : ∀ x, x ∈ l → x ∈ m) (hl : m.length ≤ l.length) (hm : m.Nodup) : ∀ x, x ∈ m → x ∈ l := fun x hx => by
  by_cases h : x ∈ l
  · exact h
  · have h1 : (x :: l).length ≤ m.length := nd_len (List.nodup_cons.mpr ⟨h, hn⟩) fun y hy => by
      rcases List.mem_cons.mp hy with e | e
      · rw [e]; exact hx
      · exact hs y e
    simp only [List.length_cons] at h1
    omega

/-! ### trees -/
def Web.tree (W : Web) : Prop := W.es.length + 1 = W.n
theorem edge_of {u v a b : Nat} (h : ((min u v, max u v) : Nat × Nat) = (min a b, max a b)) : (u = a ∧ v = b) ∨ (u = b ∧ v = a) := by
  have h1 := congrArg Prod.fst h
  have h2 := congrArg Prod.snd h
  simp only at h1 h2
  omega
theorem Web.Ok.edge (ok : W.Ok) {u v : Nat} (h : W.adj u v) : (min u v, max u v) ∈ W.es := by
  rcases h with h | h
  · have := (ok.lt _ h).1
    simp only at this
    rw [Nat.min_eq_left (by omega), Nat.max_eq_right (by omega)]
    exact h
  · have := (ok.lt _ h).1
    simp only at this
    rw [Nat.min_eq_right (by omega), Nat.max_eq_left (by omega)]
    exact h
/-- in a tree each tie leads from a place to the one behind it -/
theorem Web.Ok.treeEdge (ok : W.Ok) (ht : W.tree) {r : Nat} (hr : r < W.n) : ∃ par : Nat → Nat, (∀ v, v < W.n → v ≠ r → W.adj (par v) v ∧ W.D r (par v) + 1 = W.D r v) ∧
    ∀ u v, W.adj u v → (u ≠ r ∧ v = par u) ∨ (v ≠ r ∧ u = par v) := by
  have hp : ∀ v, ∃ u, v < W.n → v ≠ r → W.adj u v ∧ W.D r u + 1 = W.D r v := fun v => by
    by_cases h : v < W.n ∧ v ≠ r
    · obtain ⟨u, h1, h2⟩ := (ok.isD hr).back v h.1 h.2
      exact ⟨u, fun _ _ => ⟨h1, h2⟩⟩
    · exact ⟨0, fun a b => absurd ⟨a, b⟩ h⟩
  refine ⟨fun v => Classical.choose (hp v), fun v hv hne => Classical.choose_spec (hp v) hv hne, ?_⟩
  have spec : ∀ v, v < W.n → v ≠ r → W.adj (Classical.choose (hp v)) v ∧ W.D r (Classical.choose (hp v)) + 1 = W.D r v := fun v => Classical.choose_spec (hp v)
  generalize hpar : (fun v => Classical.choose (hp v)) = par at *
  have spec : ∀ v, v < W.n → v ≠ r → W.adj (par v) v ∧ W.D r (par v) + 1 = W.D r v := fun v hv hne => by
    rw [← hpar]
    exact spec v hv hne
  have vs := ((List.range W.n).erase r)
  let vl := (List.range W.n).erase r
  let l := vl.map fun v => (min (par v) v, max (par v) v)
  have hvl : ∀ v, v ∈ vl ↔ v ≠ r ∧ v < W.n := fun v => by
    rw [show v ∈ vl ↔ v ≠ r ∧ v ∈ List.range W.n from List.Nodup.mem_erase_iff List.nodup_range, List.mem_range]
  have nvl : vl.Nodup := List.Nodup.erase r List.nodup_range
  have hlen : vl.length + 1 = W.n := by
    show ((List.range W.n).erase r).length + 1 = W.n
    rw [List.length_erase_of_mem (List.mem_range.mpr hr), List.length_range]
    omega
  have nl : l.Nodup := by
    refine List.pairwise_map.mpr (List.Pairwise.imp_of_mem (fun {u v} hu hv hne e => ?_) nvl)
    have ⟨u1, u2⟩ := (hvl u).mp hu
    have ⟨v1, v2⟩ := (hvl v).mp hv
    have su := (spec u u2 u1).2
    have sv := (spec v v2 v1).2
    rcases edge_of e with ⟨_, q⟩ | ⟨q1, q2⟩
    · exact hne q
    · rw [q1] at su
      rw [← q2] at sv
      omega
  have sub : ∀ x, x ∈ l → x ∈ W.es := fun x hx => by
    obtain ⟨v, hv, e⟩ := List.mem_map.mp hx
    have ⟨v1, v2⟩ := (hvl v).mp hv
    rw [← e]
    exact ok.edge (spec v v2 v1).1
  have all := nd_all nl sub (by
    show W.es.length ≤ (vl.map _).length
    rw [List.length_map]
    unfold Web.tree at ht
    omega) ok.nd
  intro u v a
  have hm := all _ (ok.edge a)
  obtain ⟨w, hw, e⟩ := List.mem_map.mp hm
  have ⟨w1, w2⟩ := (hvl w).mp hw
  rcases edge_of e with ⟨q1, q2⟩ | ⟨q1, q2⟩
  · right
    rw [← q2]
    exact ⟨w1, q1.symm⟩
  · left
    rw [← q2]
    exact ⟨w1, q1.symm⟩
/-- a tie's ends are unlike far, by one -/
theorem Web.Ok.bip (ok : W.Ok) (ht : W.tree) {r u v : Nat} (hr : r < W.n) (a : W.adj u v) : W.D r u + 1 = W.D r v ∨ W.D r v + 1 = W.D r u := by
  obtain ⟨par, h1, h2⟩ := ok.treeEdge ht hr
  have lt := ok.adjLt a
  rcases h2 u v a with ⟨h, e⟩ | ⟨h, e⟩
  · right
    rw [e]
    exact (h1 u lt.1 h).2
  · left
    rw [e]
    exact (h1 v lt.2.1 h).2
/-- one neighbour alone is nearer -/
theorem Web.Ok.uniq (ok : W.Ok) (ht : W.tree) {r p a b : Nat} (hr : r < W.n) (pa : W.adj p a) (pb : W.adj p b) (ha : W.D r a < W.D r p) (hb : W.D r b < W.D r p) : a = b := by
  obtain ⟨par, h1, h2⟩ := ok.treeEdge ht hr
  have la := ok.adjLt pa
  have lb := ok.adjLt pb
  have f : ∀ x, W.adj p x → x < W.n → W.D r x < W.D r p → x = par p := fun x px hx hl => by
    rcases h2 p x px with ⟨_, e⟩ | ⟨h, e⟩
    · exact e
    · have := (h1 x hx h).2
      rw [← e] at this
      omega
  rw [f a pa la.2.1 ha, f b pb lb.2.1 hb]
/-- the way goes by p -/
theorem Web.Ok.thru1 (ok : W.Ok) (ht : W.tree) {x y : Nat} (hx : x < W.n) (hy : y < W.n) : ∀ k p b, W.adj p b → W.D y b = k → W.D x b = W.D x p + 1 → W.D y b + 1 = W.D y p → W.D x y = W.D x p + W.D y p := by
  intro k
  induction k with
  | zero =>
    intro p b a e1 e2 e3
    have hb := (ok.adjLt a).2.1
    have q : b = y := by
      by_cases h : b = y
      · exact h
      · have := ok.pos_of_ne hy hb (Ne.symm h)
        omega
    rw [q] at e2
    omega
  | succ k ih =>
    intro p b a e1 e2 e3
    have hb := (ok.adjLt a).2.1
    obtain ⟨c, bc, hc⟩ := ok.step hb hy (by omega)
    have hcx : W.D x c = W.D x b + 1 := by
      rcases ok.bip ht hx bc with h | h
      · exact h.symm
      · have : p = c := ok.uniq ht hx a.symm bc (by omega) (by omega)
        rw [← this] at hc
        omega
    have := ih b c bc (by omega) hcx hc
    omega
theorem Web.Ok.thru (ok : W.Ok) (ht : W.tree) {x y p a b : Nat} (hx : x < W.n) (hy : y < W.n) (pa : W.adj p a) (pb : W.adj p b) (ne : a ≠ b) (ha : W.D x a < W.D x p) (hb : W.D y b < W.D y p) : W.D x y = W.D x p + W.D y p := by
  refine ok.thru1 ht hx hy _ p b pb rfl ?_ ?_
  · rcases ok.bip ht hx pb with h | h
    · exact h.symm
    · exact absurd (ok.uniq ht hx pa pb ha (by omega)) ne
  · rcases ok.bip ht hy pb with h | h <;> omega
end Fx
set_option autoImplicit false
set_option linter.all false
namespace Fx
variable {W : Web}
/-! ### rising lists -/
theorem sort_eq {ks : List Int} {l : List Nat} {n : Nat} {P : Nat → Bool} (h : ks.Perm (l.map fun (u : Nat) => (u : Int))) (s : ks.Pairwise (· ≤ ·)) (hl : l.Nodup) (hm : ∀ u, u ∈ l ↔ u < n ∧ P u = true) :
    ks = ((List.range n).filter P).map fun (u : Nat) => (u : Int) := by
  have p1 : l.Perm ((List.range n).filter P) := (List.perm_ext_iff_of_nodup hl (List.Pairwise.filter _ List.nodup_range)).mpr fun u => by
    rw [hm, List.mem_filter, List.mem_range]
  refine List.Perm.eq_of_pairwise (le := (· ≤ ·)) (fun a b _ _ h1 h2 => Int.le_antisymm h1 h2) s ?_ (h.trans (p1.map _))
  refine List.pairwise_map.mpr (List.Pairwise.filter _ (List.Pairwise.imp (fun {a b} q => ?_) List.pairwise_lt_range))
  omega
/-! ### neighbours -/
def Web.nbr (W : Web) (v : Nat) : List Nat := (List.range W.n).filter fun u => decide (W.adj v u)
theorem Web.Ok.mem_nbr (ok : W.Ok) {u v : Nat} : u ∈ W.nbr v ↔ W.adj v u := by
  unfold Web.nbr
  rw [List.mem_filter, List.mem_range, decide_eq_true_eq]
  exact ⟨fun h => h.2, fun h => ⟨(ok.adjLt h).2.1, h⟩⟩
theorem Web.nd_nbr (W : Web) (v : Nat) : (W.nbr v).Nodup := List.Pairwise.filter _ List.nodup_range
def rowOf (v : Nat) (es : List (Nat × Nat)) : List Nat := es.flatMap fun p => (if p.1 = v then [p.2] else []) ++ (if p.2 = v then [p.1] else [])
theorem mem_rowOf {v u : Nat} {es : List (Nat × Nat)} : u ∈ rowOf v es ↔ (v, u) ∈ es ∨ (u, v) ∈ es := by
  unfold rowOf
  rw [List.mem_flatMap]
  constructor
  · rintro ⟨⟨a, b⟩, hp, hu⟩
    rw [List.mem_append] at hu
    rcases hu with hu | hu
    · by_cases q : a = v
      · simp only [q, if_true, List.mem_singleton] at hu
        left; rw [hu, ← q]; exact hp
      · simp [q] at hu
    · by_cases q : b = v
      · simp only [q, if_true, List.mem_singleton] at hu
        right; rw [hu, ← q]; exact hp
      · simp [q] at hu
  · rintro (h | h)
    · exact ⟨_, h, by simp⟩
    · exact ⟨_, h, by simp⟩
theorem nd_rowOf {v : Nat} : ∀ {es : List (Nat × Nat)}, es.Nodup → (∀ p, p ∈ es → p.1 < p.2) → (rowOf v es).Nodup := by
  intro es
  induction es with
  | nil => intro _ _; exact List.nodup_nil
  | cons p es ih =>
    intro hn hl
    have hn' := List.nodup_cons.mp hn
    have ih' := ih hn'.2 fun q hq => hl q (List.mem_cons_of_mem _ hq)
    have hp := hl p List.mem_cons_self
    have e : rowOf v (p :: es) = ((if p.1 = v then [p.2] else []) ++ (if p.2 = v then [p.1] else [])) ++ rowOf v es := by
      unfold rowOf
      rw [List.flatMap_cons]
    have hno : ∀ q, q ∈ es → ¬ (q.1 = p.2 ∧ q.2 = p.1) := fun q hq z => by
      have := hl q (List.mem_cons_of_mem _ hq)
      omega
    rw [e]
    by_cases q1 : p.1 = v
    · have q2 : ¬ p.2 = v := by omega
      rw [if_pos q1, if_neg q2]
      show (p.2 :: rowOf v es).Nodup
      refine List.nodup_cons.mpr ⟨fun h => ?_, ih'⟩
      rcases mem_rowOf.mp h with h | h
      · exact hn'.1 (by rw [← q1] at h; exact h)
      · exact hno _ h ⟨rfl, q1.symm⟩
    · by_cases q2 : p.2 = v
      · rw [if_neg q1, if_pos q2]
        show (p.1 :: rowOf v es).Nodup
        refine List.nodup_cons.mpr ⟨fun h => ?_, ih'⟩
        rcases mem_rowOf.mp h with h | h
        · exact hno _ h ⟨q2.symm, rfl⟩
        · exact hn'.1 (by rw [← q2] at h; exact h)
      · rw [if_neg q1, if_neg q2]
        exact ih'
theorem Web.Ok.sort_row (ok : W.Ok) {v : Nat} {ks : List Int} (h : ks.Perm ((rowOf v W.es).map fun (u : Nat) => (u : Int))) (s : ks.Pairwise (· ≤ ·)) : ks = (W.nbr v).map fun (u : Nat) => (u : Int) := by
  refine sort_eq h s (nd_rowOf ok.nd fun p hp => (ok.lt p hp).1) fun u => ?_
  rw [mem_rowOf, decide_eq_true_eq]
  exact ⟨fun q => ⟨(ok.adjLt (u := v) (v := u) q).2.1, q⟩, fun q => q.2⟩
/-! ### things -/
inductive Kd where
  | places | ties | all
deriving DecidableEq
inductive Th where
  | pl (v : Nat)
  | ti (a b : Nat)
deriving DecidableEq
def Web.ths (W : Web) : Kd → List Th
  | .places => (List.range W.n).map Th.pl
  | .ties => W.es.map fun p => Th.ti p.1 p.2
  | .all => (List.range W.n).map Th.pl ++ W.es.map fun p => Th.ti p.1 p.2
def Web.isTh (W : Web) : Th → Prop
  | .pl v => v < W.n
  | .ti a b => (a, b) ∈ W.es
theorem Web.isTh_of {k : Kd} {t : Th} (h : t ∈ W.ths k) : W.isTh t := by
  have h1 : ∀ t, t ∈ (List.range W.n).map Th.pl → W.isTh t := fun t ht => by
    obtain ⟨v, hv, rfl⟩ := List.mem_map.mp ht
    exact List.mem_range.mp hv
  have h2 : ∀ t, t ∈ (W.es.map fun p => Th.ti p.1 p.2) → W.isTh t := fun t ht => by
    obtain ⟨p, hp, rfl⟩ := List.mem_map.mp ht
    exact hp
  cases k with
  | places => exact h1 t h
  | ties => exact h2 t h
  | all =>
    rcases List.mem_append.mp h with h | h
    · exact h1 t h
    · exact h2 t h
theorem Web.Ok.nd_ths (ok : W.Ok) (k : Kd) : (W.ths k).Nodup := by
  have h1 : ((List.range W.n).map Th.pl).Nodup := List.pairwise_map.mpr (List.Pairwise.imp (fun {a b} q e => q (Th.pl.inj e)) List.nodup_range)
  have h2 : (W.es.map fun p => Th.ti p.1 p.2).Nodup := List.pairwise_map.mpr (List.Pairwise.imp (fun {a b} q e => q (by
    obtain ⟨a1, a2⟩ := a
    obtain ⟨b1, b2⟩ := b
    injection e with e1 e2
    simp only at e1 e2
    rw [e1, e2])) ok.nd)
  cases k with
  | places => exact h1
  | ties => exact h2
  | all =>
    refine List.nodup_append.mpr ⟨h1, h2, fun a ha b hb e => ?_⟩
    obtain ⟨v, _, rfl⟩ := List.mem_map.mp ha
    obtain ⟨p, _, rfl⟩ := List.mem_map.mp hb
    cases e
noncomputable def Web.dT (W : Web) (l : Nat) : Th → Nat
  | .pl v => W.D l v
  | .ti a b => min (W.D l a) (W.D l b)
noncomputable def Web.cd (W : Web) (L : List Nat) (t : Th) : List Nat := L.map fun l => W.dT l t
noncomputable def Web.np (W : Web) (L : List Nat) (s t : Th) : Nat := (L.filter fun l => decide (W.dT l s ≠ W.dT l t)).length
theorem Web.np_symm (W : Web) (L : List Nat) (s t : Th) : W.np L s t = W.np L t s := by
  unfold Web.np
  refine congrArg List.length (List.filter_congr fun l _ => ?_)
  by_cases h : W.dT l s = W.dT l t
  · simp [h]
  · have h' : ¬ W.dT l t = W.dT l s := fun e => h e.symm
    simp [h, h']
theorem Web.np_zip (W : Web) (s t : Th) : ∀ L : List Nat, W.np L s t = (((W.cd L s).zip (W.cd L t)).filter fun p => decide (p.1 ≠ p.2)).length
  | [] => rfl
  | l :: L => by
    have ih := W.np_zip s t L
    unfold Web.np Web.cd at ih ⊢
    rw [List.map_cons, List.map_cons, List.zip_cons_cons, List.filter_cons, List.filter_cons]
    by_cases h : W.dT l s = W.dT l t
    · simp only [h, ne_eq, not_true_eq_false, decide_false, Bool.false_eq_true, if_false]
      exact ih
    · simp only [h, ne_eq, not_false_eq_true, decide_true, if_true, List.length_cons]
      exact congrArg (· + 1) ih
theorem Web.np_zero (W : Web) (s t : Th) : ∀ L : List Nat, W.np L s t = 0 ↔ W.cd L s = W.cd L t
  | [] => ⟨fun _ => rfl, fun _ => rfl⟩
  | l :: L => by
    have ih := W.np_zero s t L
    unfold Web.np Web.cd at ih ⊢
    rw [List.map_cons, List.map_cons, List.filter_cons]
    by_cases h : W.dT l s = W.dT l t
    · simp only [h, ne_eq, not_true_eq_false, decide_false, Bool.false_eq_true, if_false, List.cons.injEq, true_and]
      exact ih
    · simp only [h, ne_eq, not_false_eq_true, decide_true, if_true, List.length_cons, List.cons.injEq, false_and, iff_false]
      omega
/-! ### the least of a list -/
def mnS (acc : Option Nat) (x : Nat) : Option Nat := match acc with
  | none => some x
  | some m => if x < m then some x else some m
def mn (l : List Nat) : Option Nat := l.foldl mnS none
theorem mn_nil : mn [] = none := rfl
theorem mn_snoc (l : List Nat) (x : Nat) : mn (l ++ [x]) = mnS (mn l) x := by
  unfold mn
  rw [List.foldl_append]
  rfl
theorem foldl_mnS : ∀ (l : List Nat) (a : Nat), ∃ m, l.foldl mnS (some a) = some m ∧ (m = a ∨ m ∈ l) ∧ m ≤ a ∧ ∀ x, x ∈ l → m ≤ x := by
  intro l
  induction l with
  | nil => exact fun a => ⟨a, rfl, .inl rfl, Nat.le_refl _, fun x hx => by simp at hx⟩
  | cons y l ih =>
    intro a
    have e : (y :: l).foldl mnS (some a) = l.foldl mnS (if y < a then some y else some a) := rfl
    rw [e]
    by_cases h : y < a
    · rw [if_pos h]
      obtain ⟨m, h1, h2, h3, h4⟩ := ih y
      refine ⟨m, h1, .inr ?_, by omega, fun x hx => ?_⟩
      · rcases h2 with h2 | h2
        · rw [h2]; exact List.mem_cons_self
        · exact List.mem_cons_of_mem _ h2
      · rcases List.mem_cons.mp hx with q | q
        · omega
        · exact h4 x q
    · rw [if_neg h]
      obtain ⟨m, h1, h2, h3, h4⟩ := ih a
      refine ⟨m, h1, ?_, h3, fun x hx => ?_⟩
      · rcases h2 with h2 | h2
        · exact .inl h2
        · exact .inr (List.mem_cons_of_mem _ h2)
      · rcases List.mem_cons.mp hx with q | q
        · omega
        · exact h4 x q
theorem mn_some {l : List Nat} (h : l ≠ []) : ∃ m, mn l = some m ∧ m ∈ l ∧ ∀ x, x ∈ l → m ≤ x := by
  cases l with
  | nil => exact absurd rfl h
  | cons a l =>
    obtain ⟨m, h1, h2, h3, h4⟩ := foldl_mnS l a
    refine ⟨m, h1, ?_, fun x hx => ?_⟩
    · rcases h2 with h2 | h2
      · rw [h2]; exact List.mem_cons_self
      · exact List.mem_cons_of_mem _ h2
    · rcases List.mem_cons.mp hx with q | q
      · omega
      · exact h4 x q
theorem mn_spec {l : List Nat} {m : Nat} (h : mn l = some m) : m ∈ l ∧ ∀ x, x ∈ l → m ≤ x := by
  have hn : l ≠ [] := fun e => by rw [e] at h; cases h
  obtain ⟨k, h1, h2⟩ := mn_some hn
  rw [h] at h1
  cases h1
  exact h2
theorem mn_none {l : List Nat} : mn l = none ↔ l = [] := by
  constructor
  · intro h
    by_cases q : l = []
    · exact q
    · obtain ⟨k, h1, _⟩ := mn_some q
      rw [h] at h1
      cases h1
  · intro h
    rw [h]
    rfl
/-! ### strength -/
def Web.thA (W : Web) (k : Kd) (i : Nat) : Th := (W.ths k).getD i (.pl 0)
noncomputable def Web.vals1 (W : Web) (L : List Nat) (k : Kd) (i j : Nat) : List Nat := (List.range j).map fun j => W.np L (W.thA k i) (W.thA k j)
noncomputable def Web.vals (W : Web) (L : List Nat) (k : Kd) (m : Nat) : List Nat := (List.range m).flatMap fun i => W.vals1 L k i i
noncomputable def Web.str (W : Web) (L : List Nat) (k : Kd) : Option Nat := mn (W.vals L k (W.ths k).length)
theorem Web.vals_succ (W : Web) (L : List Nat) (k : Kd) (m : Nat) : W.vals L k (m + 1) = W.vals L k m ++ W.vals1 L k m m := by
  unfold Web.vals
  rw [List.range_succ, List.flatMap_append]
  simp
theorem Web.vals1_succ (W : Web) (L : List Nat) (k : Kd) (i j : Nat) : W.vals1 L k i (j + 1) = W.vals1 L k i j ++ [W.np L (W.thA k i) (W.thA k j)] := by
  unfold Web.vals1
  rw [List.range_succ, List.map_append]
  rfl
theorem Web.mem_vals {L : List Nat} {k : Kd} {m x : Nat} : x ∈ W.vals L k m ↔ ∃ i j, j < i ∧ i < m ∧ W.np L (W.thA k i) (W.thA k j) = x := by
  unfold Web.vals Web.vals1
  rw [List.mem_flatMap]
  constructor
  · rintro ⟨i, hi, hx⟩
    obtain ⟨j, hj, e⟩ := List.mem_map.mp hx
    exact ⟨i, j, List.mem_range.mp hj, List.mem_range.mp hi, e⟩
  · rintro ⟨i, j, h1, h2, e⟩
    exact ⟨i, List.mem_range.mpr h2, List.mem_map.mpr ⟨j, List.mem_range.mpr h1, e⟩⟩
theorem Web.thA_mem {k : Kd} {i : Nat} (h : i < (W.ths k).length) : (W.ths k)[i]? = some (W.thA k i) ∧ W.thA k i ∈ W.ths k := by
  have e : (W.ths k)[i]? = some (W.thA k i) := by
    unfold Web.thA
    rw [List.getD_eq_getElem?_getD, List.getElem?_eq_getElem h]
    rfl
  exact ⟨e, List.mem_of_getElem? e⟩
theorem Web.str_none {L : List Nat} {k : Kd} : W.str L k = none ↔ (W.ths k).length < 2 := by
  unfold Web.str
  rw [mn_none]
  constructor
  · intro h
    by_cases q : (W.ths k).length < 2
    · exact q
    · have : W.np L (W.thA k 1) (W.thA k 0) ∈ W.vals L k (W.ths k).length := Web.mem_vals.mpr ⟨1, 0, by omega, by omega, rfl⟩
      rw [h] at this
      simp at this
  · intro h
    cases q : W.vals L k (W.ths k).length with
    | nil => rfl
    | cons x r =>
      have : x ∈ W.vals L k (W.ths k).length := by rw [q]; exact List.mem_cons_self
      obtain ⟨i, j, h1, h2, _⟩ := Web.mem_vals.mp this
      omega
theorem Web.Ok.mem_vals (ok : W.Ok) {L : List Nat} {k : Kd} {x : Nat} : x ∈ W.vals L k (W.ths k).length ↔ ∃ s t, s ∈ W.ths k ∧ t ∈ W.ths k ∧ s ≠ t ∧ W.np L s t = x := by
  rw [Web.mem_vals]
  constructor
  · rintro ⟨i, j, h1, h2, e⟩
    have ⟨e1, m1⟩ := Web.thA_mem h2
    have ⟨e2, m2⟩ := Web.thA_mem (W := W) (k := k) (i := j) (by omega)
    refine ⟨_, _, m1, m2, fun q => ?_, e⟩
    have hn := ok.nd_ths k
    rw [q] at e1
    have a1 := List.getElem?_eq_some_iff.mp e1
    have a2 := List.getElem?_eq_some_iff.mp e2
    have := (List.getElem_inj hn).mp (a1.2.trans a2.2.symm)
    omega
  · rintro ⟨s, t, m1, m2, hne, e⟩
    obtain ⟨i, hi, e1⟩ := List.mem_iff_getElem.mp m1
    obtain ⟨j, hj, e2⟩ := List.mem_iff_getElem.mp m2
    have t1 : W.thA k i = s := by
      have := (Web.thA_mem (W := W) (k := k) hi).1
      rw [List.getElem?_eq_getElem hi, e1] at this
      exact (Option.some.inj this).symm
    have t2 : W.thA k j = t := by
      have := (Web.thA_mem (W := W) (k := k) hj).1
      rw [List.getElem?_eq_getElem hj, e2] at this
      exact (Option.some.inj this).symm
    have hij : i ≠ j := fun q => hne (by rw [← t1, ← t2, q])
    by_cases h : j < i
    · exact ⟨i, j, h, hi, by rw [t1, t2]; exact e⟩
    · exact ⟨j, i, by omega, hj, by rw [t1, t2, W.np_symm]; exact e⟩
theorem Web.Ok.str_some (ok : W.Ok) {L : List Nat} {k : Kd} {m : Nat} (h : W.str L k = some m) : (∃ s t, s ∈ W.ths k ∧ t ∈ W.ths k ∧ s ≠ t ∧ W.np L s t = m) ∧ ∀ s t, s ∈ W.ths k → t ∈ W.ths k → s ≠ t → m ≤ W.np L s t := by
  have ⟨h1, h2⟩ := mn_spec h
  exact ⟨ok.mem_vals.mp h1, fun s t hs ht hne => h2 _ (ok.mem_vals.mpr ⟨s, t, hs, ht, hne, rfl⟩)⟩
theorem Web.Ok.str_is (ok : W.Ok) {L : List Nat} {k : Kd} {m : Nat} (h1 : ∃ s t, s ∈ W.ths k ∧ t ∈ W.ths k ∧ s ≠ t ∧ W.np L s t = m) (h2 : ∀ s t, s ∈ W.ths k → t ∈ W.ths k → s ≠ t → m ≤ W.np L s t) : W.str L k = some m := by
  cases q : W.str L k with
  | none =>
    have := mn_none.mp q
    have h3 := ok.mem_vals.mpr h1
    rw [this] at h3
    simp at h3
  | some r =>
    have ⟨⟨s, t, a, b, c, d⟩, e⟩ := ok.str_some q
    obtain ⟨s', t', a', b', c', d'⟩ := h1
    have g1 := h2 s t a b c
    have g2 := e s' t' a' b' c'
    rw [show r = m by omega]
/-- known: no two things of one code -/
theorem Web.Ok.str_known (ok : W.Ok) {L : List Nat} {k : Kd} : ((W.ths k).map (W.cd L)).Nodup ↔ (W.str L k = none ∨ ∃ m, W.str L k = some m ∧ 0 < m) := by
  have nd := ok.nd_ths k
  constructor
  · intro h
    cases q : W.str L k with
    | none => exact .inl rfl
    | some m =>
      refine .inr ⟨m, rfl, ?_⟩
      obtain ⟨⟨s, t, a, b, c, d⟩, _⟩ := ok.str_some q
      cases m with
      | succ m => omega
      | zero =>
        have e := (W.np_zero s t L).mp d
        exfalso
        obtain ⟨i, hi, e1⟩ := List.mem_iff_getElem.mp a
        obtain ⟨j, hj, e2⟩ := List.mem_iff_getElem.mp b
        have hij : i ≠ j := fun z => c (by subst z; rw [← e1, ← e2])
        have := (List.getElem_inj (h₀ := by rw [List.length_map]; exact hi) (h₁ := by rw [List.length_map]; exact hj) h).mp (by rw [List.getElem_map, List.getElem_map, e1, e2, e])
        exact hij this
  · intro h
    refine List.pairwise_map.mpr (List.Pairwise.imp_of_mem (fun {s t} hs ht hne e => ?_) nd)
    have z := (W.np_zero s t L).mpr e
    rcases h with h | ⟨m, h, hm⟩
    · have h2 := mn_none.mp h
      have h3 := (ok.mem_vals (L := L)).mpr ⟨s, t, hs, ht, hne, rfl⟩
      rw [h2] at h3
      simp at h3
    · have := (ok.str_some h).2 s t hs ht hne
      omega
/-! ### looks -/
def Web.Lk (W : Web) (L : List Nat) : Prop := L = (List.range W.n).filter fun p => decide (p ∈ L)
theorem Web.Lk.lt {L : List Nat} (h : W.Lk L) {p : Nat} (hp : p ∈ L) : p < W.n := by
  rw [h, List.mem_filter, List.mem_range] at hp
  exact hp.1
theorem Web.Lk.nd {L : List Nat} (h : W.Lk L) : L.Nodup := by
  rw [h]
  exact List.Pairwise.filter _ List.nodup_range
theorem Web.Lk.up {L : List Nat} (h : W.Lk L) : L.Pairwise (· < ·) := by
  rw [h]
  exact List.Pairwise.filter _ List.pairwise_lt_range
theorem Web.Lk.len {L : List Nat} (h : W.Lk L) : L.length ≤ W.n := by
  have := nd_len h.nd (m := List.range W.n) fun x hx => List.mem_range.mpr (h.lt hx)
  rw [List.length_range] at this
  exact this
theorem Web.Lk.of {P : Nat → Bool} : W.Lk ((List.range W.n).filter P) := by
  unfold Web.Lk
  refine List.filter_congr fun x hx => ?_
  by_cases h : P x = true
  · rw [h, decide_eq_true (List.mem_filter.mpr ⟨hx, h⟩)]
  · rw [Bool.not_eq_true] at h
    rw [h, decide_eq_false (fun q => by
      have := (List.mem_filter.mp q).2
      rw [h] at this
      cases this)]
theorem Web.Lk.all : W.Lk (List.range W.n) := by
  have h := Web.Lk.of (W := W) (P := fun _ => true)
  rw [List.filter_eq_self.mpr (fun _ _ => rfl)] at h
  exact h
theorem Web.Lk.filter {L : List Nat} (h : W.Lk L) (P : Nat → Bool) : W.Lk (L.filter P) := by
  have e : L.filter P = (List.range W.n).filter fun x => decide (x ∈ L) && P x := by
    conv => lhs; rw [h]
    rw [List.filter_filter]
    exact List.filter_congr fun x _ => Bool.and_comm _ _
  rw [e]
  exact Web.Lk.of
/-- looks among the parters -/
theorem Web.Lk.parters {L : List Nat} (h : W.Lk L) (P : Nat → Bool) : (((List.range W.n).filter P).filter fun p => decide (p ∈ L)) = L.filter P := by
  conv => rhs; rw [h]
  rw [List.filter_filter, List.filter_filter]
  exact List.filter_congr fun x _ => Bool.and_comm _ _
/-- more looks part more -/
theorem Web.np_mono {L M : List Nat} (hL : L.Nodup) (hs : ∀ x, x ∈ L → x ∈ M) (s t : Th) : W.np L s t ≤ W.np M s t := by
  unfold Web.np
  exact nd_len (List.Pairwise.filter _ hL) fun x hx => List.mem_filter.mpr ⟨hs x (List.mem_filter.mp hx).1, (List.mem_filter.mp hx).2⟩
theorem Web.np_drop {L : List Nat} (hL : L.Nodup) (s t : Th) (l : Nat) : W.np L s t ≤ W.np (L.filter fun x => decide (x ≠ l)) s t + 1 := by
  unfold Web.np
  have : (L.filter fun x => decide (W.dT x s ≠ W.dT x t)).length ≤ (l :: ((L.filter fun x => decide (x ≠ l)).filter fun x => decide (W.dT x s ≠ W.dT x t))).length := nd_len (List.Pairwise.filter _ hL) fun x hx => by
    have ⟨h1, h2⟩ := List.mem_filter.mp hx
    by_cases q : x = l
    · rw [q]; exact List.mem_cons_self
    · exact List.mem_cons_of_mem _ (List.mem_filter.mpr ⟨List.mem_filter.mpr ⟨h1, decide_eq_true q⟩, h2⟩)
  exact this
theorem Web.np_less {L : List Nat} (hL : L.Nodup) {s t : Th} {l : Nat} (hl : l ∈ L) (hp : W.dT l s ≠ W.dT l t) : W.np (L.filter fun x => decide (x ≠ l)) s t + 1 ≤ W.np L s t := by
  unfold Web.np
  have : (l :: ((L.filter fun x => decide (x ≠ l)).filter fun x => decide (W.dT x s ≠ W.dT x t))).length ≤ (L.filter fun x => decide (W.dT x s ≠ W.dT x t)).length := by
    refine nd_len (List.nodup_cons.mpr ⟨fun q => ?_, List.Pairwise.filter _ (List.Pairwise.filter _ hL)⟩) fun x hx => ?_
    · have := (List.mem_filter.mp (List.mem_filter.mp q).1).2
      simp at this
    · rcases List.mem_cons.mp hx with q | q
      · rw [q]; exact List.mem_filter.mpr ⟨hl, decide_eq_true hp⟩
      · have ⟨h1, h2⟩ := List.mem_filter.mp q
        exact List.mem_filter.mpr ⟨(List.mem_filter.mp h1).1, h2⟩
  exact this
/-- most_strength is no less -/
theorem Web.Ok.str_most (ok : W.Ok) {L : List Nat} (hL : W.Lk L) {k : Kd} {m r : Nat} (h : W.str L k = some m) (h2 : W.str (List.range W.n) k = some r) : m ≤ r := by
  obtain ⟨⟨s, t, a, b, c, d⟩, _⟩ := ok.str_some h2
  have q := (ok.str_some h).2 s t a b c
  have := Web.np_mono (W := W) hL.nd (M := List.range W.n) (fun x hx => List.mem_range.mpr (hL.lt hx)) s t
  omega
/-- without a look -/
theorem Web.Ok.str_fewer (ok : W.Ok) {L : List Nat} (hL : W.Lk L) {k : Kd} {m : Nat} (h : W.str L k = some m) (l : Nat) : ∃ r, W.str (L.filter fun x => decide (x ≠ l)) k = some r ∧ r ≤ m ∧ m ≤ r + 1 := by
  cases q : W.str (L.filter fun x => decide (x ≠ l)) k with
  | none =>
    have h1 := Web.str_none.mp q
    have h2 := (Web.str_none (W := W) (L := L) (k := k)).mpr h1
    rw [h] at h2
    cases h2
  | some r =>
    refine ⟨r, rfl, ?_, ?_⟩
    · obtain ⟨⟨s, t, a, b, c, d⟩, _⟩ := ok.str_some h
      have := (ok.str_some q).2 s t a b c
      have q2 := Web.np_mono (W := W) (L := L.filter fun x => decide (x ≠ l)) (M := L) (List.Pairwise.filter _ hL.nd) (fun x hx => (List.mem_filter.mp hx).1) s t
      omega
    · obtain ⟨⟨s, t, a, b, c, d⟩, _⟩ := ok.str_some q
      have := (ok.str_some h).2 s t a b c
      have q2 := Web.np_drop (W := W) hL.nd s t l
      omega
theorem Web.Ok.str_some_less (ok : W.Ok) {L : List Nat} (hL : W.Lk L) {k : Kd} {m : Nat} (h : W.str L k = some (m + 1)) : ∃ l, l ∈ L ∧ W.str (L.filter fun x => decide (x ≠ l)) k = some m := by
  obtain ⟨⟨s, t, a, b, c, d⟩, _⟩ := ok.str_some h
  have hp : 0 < (L.filter fun l => decide (W.dT l s ≠ W.dT l t)).length := by
    have : W.np L s t = (L.filter fun l => decide (W.dT l s ≠ W.dT l t)).length := rfl
    omega
  obtain ⟨l, hl⟩ := List.exists_mem_of_length_pos hp
  have ⟨h1, h2⟩ := List.mem_filter.mp hl
  have h2 := of_decide_eq_true h2
  refine ⟨l, h1, ?_⟩
  obtain ⟨r, hr, r1, r2⟩ := ok.str_fewer hL h l
  have q := (ok.str_some hr).2 s t a b c
  have q2 := Web.np_less (W := W) hL.nd h1 h2
  rw [hr, show r = m by omega]
end Fx
set_option autoImplicit false
set_option linter.all false
namespace Fx
variable {W : Web}
/-! ### filters and their lengths -/
theorem flt_le {α : Type} {P Q : α → Bool} : ∀ {L : List α}, (∀ x, x ∈ L → P x = true → Q x = true) → (L.filter P).length ≤ (L.filter Q).length
  | [], _ => Nat.le_refl _
  | x :: L, h => by
    have ih := flt_le (P := P) (Q := Q) (L := L) fun y hy => h y (List.mem_cons_of_mem _ hy)
    have hx := h x List.mem_cons_self
    rw [List.filter_cons, List.filter_cons]
    cases q : P x with
    | true =>
      rw [hx q]
      simp only [if_true, List.length_cons]
      omega
    | false =>
      simp only [Bool.false_eq_true, if_false]
      cases Q x with
      | true => simp only [if_true, List.length_cons]; omega
      | false => simpa using ih
theorem flt_add {α : Type} {P Q : α → Bool} : ∀ {L : List α}, (∀ x, x ∈ L → P x = true → Q x = true → False) → (L.filter P).length + (L.filter Q).length = (L.filter fun x => P x || Q x).length
  | [], _ => rfl
  | x :: L, h => by
    have ih := flt_add (P := P) (Q := Q) (L := L) fun y hy => h y (List.mem_cons_of_mem _ hy)
    have hx := h x List.mem_cons_self
    rw [List.filter_cons, List.filter_cons, List.filter_cons]
    cases q : P x with
    | true =>
      cases q2 : Q x with
      | true => exact (hx q q2).elim
      | false =>
        simp only [Bool.true_or, if_true, Bool.false_eq_true, if_false, List.length_cons]
        omega
    | false =>
      cases q2 : Q x with
      | true =>
        simp only [Bool.or_true, if_true, Bool.false_eq_true, if_false, List.length_cons]
        omega
      | false =>
        simp only [Bool.or_false, Bool.false_eq_true, if_false]
        exact ih
/-! ### pieces -/
noncomputable def Web.piece (W : Web) (p a : Nat) : List Nat := (List.range W.n).filter fun v => decide (W.D v a < W.D v p)
noncomputable def Web.cnt (W : Web) (L : List Nat) (p a : Nat) : Nat := (L.filter fun l => decide (l ∈ W.piece p a)).length
theorem Web.mem_piece {p a l : Nat} : l ∈ W.piece p a ↔ l < W.n ∧ W.D l a < W.D l p := by
  unfold Web.piece
  rw [List.mem_filter, List.mem_range, decide_eq_true_eq]
def tieOf (p a : Nat) : Th := .ti (min p a) (max p a)
theorem Web.dT_tie (W : Web) (l p a : Nat) : W.dT l (tieOf p a) = min (W.D l p) (W.D l a) := by
  show min (W.D l (min p a)) (W.D l (max p a)) = _
  by_cases h : p ≤ a
  · rw [show min p a = p from Nat.min_eq_left h, show max p a = a from Nat.max_eq_right h]
  · rw [show min p a = a from Nat.min_eq_right (by omega), show max p a = p from Nat.max_eq_left (by omega)]
    exact Nat.min_comm _ _
/-- p and its tie to a: parted by the piece of a -/
theorem Web.Ok.np_all (ok : W.Ok) {L : List Nat} (hL : W.Lk L) (p a : Nat) : W.np L (.pl p) (tieOf p a) = W.cnt L p a := by
  unfold Web.np Web.cnt
  refine congrArg List.length (List.filter_congr fun l hl => ?_)
  rw [Web.dT_tie]
  show decide (W.D l p ≠ min (W.D l p) (W.D l a)) = _
  refine decide_eq_decide.mpr ?_
  rw [Web.mem_piece]
  have := hL.lt hl
  constructor
  · intro h
    exact ⟨this, by omega⟩
  · intro h
    omega
theorem Web.Ok.np_two (ok : W.Ok) (ht : W.tree) {L : List Nat} (hL : W.Lk L) {p a b : Nat} (pa : W.adj p a) (pb : W.adj p b) (ne : a ≠ b) :
    W.np L (.pl a) (.pl b) = W.cnt L p a + W.cnt L p b ∧ W.np L (tieOf p a) (tieOf p b) = W.cnt L p a + W.cnt L p b := by
  have h2 : W.cnt L p a + W.cnt L p b = (L.filter fun l => decide (l ∈ W.piece p a) || decide (l ∈ W.piece p b)).length := by
    unfold Web.cnt
    refine flt_add fun l hl h1 h2 => ?_
    have q1 := Web.mem_piece.mp (of_decide_eq_true h1)
    have q2 := Web.mem_piece.mp (of_decide_eq_true h2)
    exact ne (ok.uniq ht q1.1 pa pb q1.2 q2.2)
  rw [h2]
  have key : ∀ l, l ∈ L → (decide (l ∈ W.piece p a) || decide (l ∈ W.piece p b)) = decide (W.D l a < W.D l p ∨ W.D l b < W.D l p) := fun l hl => by
    have hn := hL.lt hl
    have e : (l ∈ W.piece p a) ↔ W.D l a < W.D l p := ⟨fun h => (Web.mem_piece.mp h).2, fun h => Web.mem_piece.mpr ⟨hn, h⟩⟩
    have e2 : (l ∈ W.piece p b) ↔ W.D l b < W.D l p := ⟨fun h => (Web.mem_piece.mp h).2, fun h => Web.mem_piece.mpr ⟨hn, h⟩⟩
    rw [← Bool.decide_or]
    exact decide_eq_decide.mpr (or_congr e e2)
  refine ⟨?_, ?_⟩
  · unfold Web.np
    refine congrArg List.length (List.filter_congr fun l hl => ?_)
    have hn := hL.lt hl
    rw [key l hl]
    refine decide_eq_decide.mpr ?_
    show W.D l a ≠ W.D l b ↔ _
    have u := fun h1 h2 => ne (ok.uniq ht hn pa pb h1 h2)
    rcases ok.bip ht hn pa with h1 | h1 <;> rcases ok.bip ht hn pb with h2 | h2
    · omega
    · omega
    · omega
    · exact (u (by omega) (by omega)).elim
  · unfold Web.np
    refine congrArg List.length (List.filter_congr fun l hl => ?_)
    have hn := hL.lt hl
    rw [key l hl, Web.dT_tie, Web.dT_tie]
    refine decide_eq_decide.mpr ?_
    have u := fun h1 h2 => ne (ok.uniq ht hn pa pb h1 h2)
    rcases ok.bip ht hn pa with h1 | h1 <;> rcases ok.bip ht hn pb with h2 | h2
    · omega
    · omega
    · omega
    · exact (u (by omega) (by omega)).elim
/-! ### what parts two things of a tree -/
theorem Web.Ok.dT_near (ok : W.Ok) {u v : Nat} (a : W.adj u v) {t : Th} (ht : W.isTh t) : W.dT u t ≤ W.dT v t + 1 := by
  have la := ok.adjLt a
  have f : ∀ e, e < W.n → W.D u e ≤ W.D v e + 1 := fun e he => by
    have := (ok.isD he).near v u a.symm
    rw [ok.symm he la.1, ok.symm he la.2.1] at this
    exact this
  cases t with
  | pl e => exact f e ht
  | ti e g =>
    have h1 := f e (Nat.lt_trans (ok.lt _ ht).1 (ok.lt _ ht).2)
    have h2 := f g (ok.lt _ ht).2
    show min (W.D u e) (W.D u g) ≤ min (W.D v e) (W.D v g) + 1
    omega
theorem Web.Ok.dT_tri (ok : W.Ok) {l a : Nat} (hl : l < W.n) (ha : a < W.n) {t : Th} (ht : W.isTh t) : W.dT l t ≤ W.D l a + W.dT a t := by
  cases t with
  | pl e => exact ok.tri hl ha _ e ht rfl
  | ti e g =>
    have h1 := ok.tri hl ha _ e (Nat.lt_trans (ok.lt _ ht).1 (ok.lt _ ht).2) rfl
    have h2 := ok.tri hl ha _ g (ok.lt _ ht).2 rfl
    show min (W.D l e) (W.D l g) ≤ W.D l a + min (W.D a e) (W.D a g)
    omega
theorem Web.Ok.dT_step (ok : W.Ok) {p : Nat} (hp : p < W.n) {t : Th} (ht : W.isTh t) (h : 0 < W.dT p t) : ∃ b, W.adj p b ∧ W.dT b t + 1 = W.dT p t := by
  have f : ∀ e, e < W.n → 0 < W.D p e → ∃ b, W.adj p b ∧ W.D b e + 1 = W.D p e := fun e he h0 => by
    obtain ⟨b, hb, q⟩ := ok.step hp he (by rw [ok.symm he hp]; exact h0)
    rw [ok.symm he (ok.adjLt hb).2.1, ok.symm he hp] at q
    exact ⟨b, hb, q⟩
  cases t with
  | pl e => exact f e ht h
  | ti e g =>
    have he : e < W.n := Nat.lt_trans (ok.lt _ ht).1 (ok.lt _ ht).2
    have hg : g < W.n := (ok.lt _ ht).2
    have hd : W.dT p (.ti e g) = min (W.D p e) (W.D p g) := rfl
    by_cases q : W.D p e ≤ W.D p g
    · obtain ⟨b, hb, z⟩ := f e he (by omega)
      have l1 := ok.dT_near hb ht
      have l2 : W.dT b (.ti e g) ≤ W.D b e := Nat.min_le_left _ _
      exact ⟨b, hb, by omega⟩
    · obtain ⟨b, hb, z⟩ := f g hg (by omega)
      have l1 := ok.dT_near hb ht
      have l2 : W.dT b (.ti e g) ≤ W.D b g := Nat.min_le_right _ _
      exact ⟨b, hb, by omega⟩
theorem Web.Ok.dT_thru (ok : W.Ok) (tr : W.tree) {p a b l : Nat} (hl : l < W.n) (pa : W.adj p a) (pb : W.adj p b) (ne : a ≠ b) (h : W.D l a < W.D l p) {t : Th} (ht : W.isTh t) (hb : W.dT b t + 1 = W.dT p t) : W.dT l t = W.D l p + W.dT p t := by
  have hp := (ok.adjLt pa).1
  have hbn := (ok.adjLt pb).2.1
  have f : ∀ e, e < W.n → W.D b e < W.D p e → W.D l e = W.D l p + W.D p e := fun e he z => by
    have := ok.thru tr hl he pa pb ne h (by rw [ok.symm he hbn, ok.symm he hp]; exact z)
    rw [ok.symm he hp] at this
    exact this
  have g : ∀ e, e < W.n → W.D b e + 1 = W.D p e ∨ W.D p e + 1 = W.D b e := fun e he => by
    rcases ok.bip tr he pb with z | z
    · right
      rw [ok.symm he hp, ok.symm he hbn] at z
      exact z
    · left
      rw [ok.symm he hp, ok.symm he hbn] at z
      exact z
  cases t with
  | pl e =>
    refine f e ht ?_
    show W.dT b (.pl e) < W.dT p (.pl e)
    omega
  | ti e k =>
    have he : e < W.n := Nat.lt_trans (ok.lt _ ht).1 (ok.lt _ ht).2
    have hk : k < W.n := (ok.lt _ ht).2
    have ek : W.adj e k := .inl ht
    have d1 : W.dT p (.ti e k) = min (W.D p e) (W.D p k) := rfl
    have d2 : W.dT b (.ti e k) = min (W.D b e) (W.D b k) := rfl
    have d3 : W.dT l (.ti e k) = min (W.D l e) (W.D l k) := rfl
    have n1 := (ok.isD hbn).near e k ek
    have n2 := (ok.isD hbn).near k e ek.symm
    have n3 := ok.tri hl hp _ e he rfl
    have n4 := ok.tri hl hp _ k hk rfl
    rcases g e he with z1 | z1 <;> rcases g k hk with z2 | z2
    · have q1 := f e he (by omega)
      have q2 := f k hk (by omega)
      omega
    · have q1 := f e he (by omega)
      omega
    · have q2 := f k hk (by omega)
      omega
    · omega
/-- some place has two neighbours -/
theorem Web.Ok.two (ok : W.Ok) (h3 : 3 ≤ W.n) : ∃ p a b, W.adj p a ∧ W.adj p b ∧ a ≠ b := by
  by_cases h : ∃ p a b, W.adj p a ∧ W.adj p b ∧ a ≠ b
  · exact h
  · have u : ∀ p a b, W.adj p a → W.adj p b → a = b := fun p a b x y => by
      by_cases q : a = b
      · exact q
      · exact absurd ⟨p, a, b, x, y, q⟩ h
    have all := ok.conn (fun v => v = 0 ∨ W.adj 0 v) (.inl rfl) fun x y a hx => by
      rcases hx with hx | hx
      · rw [hx] at a
        exact .inr a
      · exact .inl (u x y 0 a hx.symm)
    have h1 : W.adj 0 1 := by
      rcases all 1 (by omega) with q | q
      · omega
      · exact q
    have h2 : W.adj 0 2 := by
      rcases all 2 (by omega) with q | q
      · omega
      · exact q
    have := u 0 1 2 h1 h2
    omega
theorem Web.Ok.hasNbr (ok : W.Ok) (h2 : 2 ≤ W.n) {p : Nat} (hp : p < W.n) : ∃ a, W.adj p a := by
  by_cases h : ∃ a, W.adj p a
  · exact h
  · have all := ok.connAt hp (fun v => v = p) rfl fun x y a hx => by
      rw [hx] at a
      exact absurd ⟨y, a⟩ h
    have h0 := all 0 (by omega)
    have h1 := all 1 (by omega)
    omega
theorem tie_ends {x y p : Nat} (h : p = x ∨ p = y) (hxy : x < y) : ∃ a, Th.ti x y = tieOf p a ∧ ((p = x ∧ a = y) ∨ (p = y ∧ a = x)) := by
  rcases h with h | h
  · refine ⟨y, ?_, .inl ⟨h, rfl⟩⟩
    unfold tieOf
    rw [h, Nat.min_eq_left (by omega), Nat.max_eq_right (by omega)]
  · refine ⟨x, ?_, .inr ⟨h, rfl⟩⟩
    unfold tieOf
    rw [h, Nat.min_eq_right (by omega), Nat.max_eq_left (by omega)]
theorem Web.Ok.zero_eq (ok : W.Ok) {p e : Nat} (hp : p < W.n) (he : e < W.n) (h : W.D p e = 0) : p = e := by
  by_cases q : p = e
  · exact q
  · have := ok.pos_of_ne hp he q
    omega
/-- a tie at no distance has p as an end -/
theorem Web.Ok.tie_zero (ok : W.Ok) {p x y : Nat} (hp : p < W.n) (ht : W.isTh (.ti x y)) (h : W.dT p (.ti x y) = 0) : ∃ a, W.adj p a ∧ Th.ti x y = tieOf p a := by
  have hx : x < W.n := Nat.lt_trans (ok.lt _ ht).1 (ok.lt _ ht).2
  have hy : y < W.n := (ok.lt _ ht).2
  have hd : min (W.D p x) (W.D p y) = 0 := h
  have e : p = x ∨ p = y := by
    by_cases q : W.D p x = 0
    · exact .inl (ok.zero_eq hp hx q)
    · exact .inr (ok.zero_eq hp hy (by omega))
  obtain ⟨a, h1, h2⟩ := tie_ends e (ok.lt _ ht).1
  refine ⟨a, ?_, h1⟩
  rcases h2 with ⟨q1, q2⟩ | ⟨q1, q2⟩
  · rw [q1, q2]; exact .inl ht
  · rw [q1, q2]; exact .inr ht
/-- the nearest place that does not part two things -/
theorem Web.Ok.mid (ok : W.Ok) (tr : W.tree) {s t : Th} (hs : W.isTh s) (ht : W.isTh t) {l0 : Nat} (h0 : l0 < W.n) (e0 : W.dT l0 s = W.dT l0 t) :
    (∃ p a b, W.adj p a ∧ W.adj p b ∧ a ≠ b ∧ ∀ l, l < W.n → (W.D l a < W.D l p ∨ W.D l b < W.D l p) → W.dT l s ≠ W.dT l t) ∨ ∃ p, p < W.n ∧ W.dT p s = 0 ∧ W.dT p t = 0 := by
  obtain ⟨k, ⟨p, hp, e1, e2⟩, hmin⟩ := least_of (P := fun k => ∃ p, p < W.n ∧ W.dT p s = k ∧ W.dT p t = k) _ ⟨l0, h0, rfl, e0.symm⟩
  cases k with
  | zero => exact .inr ⟨p, hp, e1, e2⟩
  | succ k =>
    obtain ⟨a, pa, ha⟩ := ok.dT_step hp hs (by omega)
    obtain ⟨b, pb, hb⟩ := ok.dT_step hp ht (by omega)
    have ne : a ≠ b := fun q => hmin k (Nat.lt_succ_self k) ⟨a, (ok.adjLt pa).2.1, by omega, by rw [q]; omega⟩
    refine .inl ⟨p, a, b, pa, pb, ne, fun l hl h => ?_⟩
    rcases h with h | h
    · have q1 := ok.dT_thru tr hl pa pb ne h ht hb
      have q2 := ok.dT_tri hl (ok.adjLt pa).2.1 hs
      omega
    · have q1 := ok.dT_thru tr hl pb pa (Ne.symm ne) h hs ha
      have q2 := ok.dT_tri hl (ok.adjLt pb).2.1 ht
      omega
def same : Th → Th → Prop
  | .pl _, .pl _ => True
  | .ti _ _, .ti _ _ => True
  | _, _ => False
theorem Web.Ok.partTwo (ok : W.Ok) (tr : W.tree) (h3 : 3 ≤ W.n) {s t : Th} (hs : W.isTh s) (ht : W.isTh t) (hne : s ≠ t) (sm : same s t) :
    ∃ p a b, W.adj p a ∧ W.adj p b ∧ a ≠ b ∧ ∀ l, l < W.n → (W.D l a < W.D l p ∨ W.D l b < W.D l p) → W.dT l s ≠ W.dT l t := by
  by_cases h : ∃ l, l < W.n ∧ W.dT l s = W.dT l t
  · obtain ⟨l0, h0, e0⟩ := h
    rcases ok.mid tr hs ht h0 e0 with q | ⟨p, hp, z1, z2⟩
    · exact q
    · cases s with
      | pl x =>
        cases t with
        | pl y =>
          have e1 := ok.zero_eq hp hs z1
          have e2 := ok.zero_eq hp ht z2
          exact absurd (by rw [← e1, ← e2]) hne
        | ti _ _ => exact sm.elim
      | ti x y =>
        cases t with
        | pl _ => exact sm.elim
        | ti x' y' =>
          obtain ⟨a, pa, ea⟩ := ok.tie_zero hp hs z1
          obtain ⟨b, pb, eb⟩ := ok.tie_zero hp ht z2
          have ne : a ≠ b := fun q => hne (by rw [ea, eb, q])
          refine ⟨p, a, b, pa, pb, ne, fun l hl h => ?_⟩
          rw [ea, eb, Web.dT_tie, Web.dT_tie]
          have u := fun h1 h2 => ne (ok.uniq tr hl pa pb h1 h2)
          rcases h with h | h
          · by_cases q : W.D l b < W.D l p
            · exact (u h q).elim
            · omega
          · by_cases q : W.D l a < W.D l p
            · exact (u q h).elim
            · omega
  · obtain ⟨p, a, b, pa, pb, ne⟩ := ok.two h3
    exact ⟨p, a, b, pa, pb, ne, fun l hl _ e => h ⟨l, hl, e⟩⟩
theorem Web.Ok.partOne (ok : W.Ok) (tr : W.tree) (h2 : 2 ≤ W.n) {s t : Th} (hs : W.isTh s) (ht : W.isTh t) (hne : s ≠ t) : ∃ p a, W.adj p a ∧ ∀ l, l < W.n → W.D l a < W.D l p → W.dT l s ≠ W.dT l t := by
  by_cases h : ∃ l, l < W.n ∧ W.dT l s = W.dT l t
  · obtain ⟨l0, h0, e0⟩ := h
    rcases ok.mid tr hs ht h0 e0 with ⟨p, a, b, pa, pb, ne, q⟩ | ⟨p, hp, z1, z2⟩
    · exact ⟨p, a, pa, fun l hl h => q l hl (.inl h)⟩
    · have go : ∀ (s t : Th), W.isTh s → W.isTh t → s ≠ t → W.dT p s = 0 → W.dT p t = 0 → (∃ x y, t = .ti x y) → ∃ p a, W.adj p a ∧ ∀ l, l < W.n → W.D l a < W.D l p → W.dT l s ≠ W.dT l t := by
        rintro s _ hs ht hne z1 z2 ⟨x, y, rfl⟩
        obtain ⟨b, pb, eb⟩ := ok.tie_zero hp ht z2
        cases s with
        | pl e =>
          have e1 := ok.zero_eq hp hs z1
          refine ⟨p, b, pb, fun l hl h => ?_⟩
          rw [eb, Web.dT_tie, ← e1]
          show W.D l p ≠ _
          omega
        | ti x' y' =>
          obtain ⟨a, pa, ea⟩ := ok.tie_zero hp hs z1
          have ne : a ≠ b := fun q => hne (by rw [ea, eb, q])
          refine ⟨p, a, pa, fun l hl h => ?_⟩
          rw [ea, eb, Web.dT_tie, Web.dT_tie]
          by_cases q : W.D l b < W.D l p
          · exact (ne (ok.uniq tr hl pa pb h q)).elim
          · omega
      cases t with
      | ti x y => exact go s _ hs ht hne z1 z2 ⟨x, y, rfl⟩
      | pl y =>
        cases s with
        | pl x =>
          have e1 := ok.zero_eq hp hs z1
          have e2 := ok.zero_eq hp ht z2
          exact absurd (by rw [← e1, ← e2]) hne
        | ti x x' =>
          obtain ⟨q, a, qa, hq⟩ := go _ _ ht hs (Ne.symm hne) z2 z1 ⟨x, x', rfl⟩
          exact ⟨q, a, qa, fun l hl h => Ne.symm (hq l hl h)⟩
  · obtain ⟨a, pa⟩ := ok.hasNbr h2 (p := 0) (by omega)
    exact ⟨0, a, pa, fun l hl _ e => h ⟨l, hl, e⟩⟩
theorem Web.Ok.cnt_le (ok : W.Ok) {L : List Nat} (hL : W.Lk L) {s t : Th} {p a : Nat} (h : ∀ l, l < W.n → W.D l a < W.D l p → W.dT l s ≠ W.dT l t) : W.cnt L p a ≤ W.np L s t := by
  unfold Web.cnt Web.np
  refine flt_le fun l hl q => ?_
  have q := Web.mem_piece.mp (of_decide_eq_true q)
  exact decide_eq_true (h l q.1 q.2)
theorem Web.Ok.cnt_le2 (ok : W.Ok) (tr : W.tree) {L : List Nat} (hL : W.Lk L) {s t : Th} {p a b : Nat} (pa : W.adj p a) (pb : W.adj p b) (ne : a ≠ b) (h : ∀ l, l < W.n → (W.D l a < W.D l p ∨ W.D l b < W.D l p) → W.dT l s ≠ W.dT l t) : W.cnt L p a + W.cnt L p b ≤ W.np L s t := by
  unfold Web.cnt Web.np
  rw [flt_add fun l hl h1 h2 => ne (ok.uniq tr (hL.lt hl) pa pb (Web.mem_piece.mp (of_decide_eq_true h1)).2 (Web.mem_piece.mp (of_decide_eq_true h2)).2)]
  refine flt_le fun l hl q => ?_
  rw [Bool.or_eq_true] at q
  refine decide_eq_true (h l (hL.lt hl) ?_)
  rcases q with q | q
  · exact .inl (Web.mem_piece.mp (of_decide_eq_true q)).2
  · exact .inr (Web.mem_piece.mp (of_decide_eq_true q)).2
/-! ### the strength of a tree -/
theorem pl_ths {k : Kd} {v : Nat} (h : v < W.n) (hk : k ≠ .ties) : Th.pl v ∈ W.ths k := by
  have : Th.pl v ∈ (List.range W.n).map Th.pl := List.mem_map.mpr ⟨v, List.mem_range.mpr h, rfl⟩
  cases k with
  | places => exact this
  | ties => exact absurd rfl hk
  | all => exact List.mem_append_left _ this
theorem Web.Ok.tie_ths (ok : W.Ok) {k : Kd} {p a : Nat} (h : W.adj p a) (hk : k ≠ .places) : tieOf p a ∈ W.ths k := by
  have : tieOf p a ∈ (W.es.map fun p => Th.ti p.1 p.2) := List.mem_map.mpr ⟨_, ok.edge h, rfl⟩
  cases k with
  | places => exact absurd rfl hk
  | ties => exact this
  | all => exact List.mem_append_right _ this
theorem tie_inj {p a b : Nat} (h : tieOf p a = tieOf p b) : a = b := by
  unfold tieOf at h
  injection h with h1 h2
  omega
theorem Web.Ok.tree_all (ok : W.Ok) (tr : W.tree) (h2 : 2 ≤ W.n) {L : List Nat} (hL : W.Lk L) {m : Nat} (h : W.str L .all = some m) : (∀ p a, W.adj p a → m ≤ W.cnt L p a) ∧ ∃ p a, W.adj p a ∧ W.cnt L p a ≤ m := by
  have ⟨⟨s, t, a1, a2, a3, a4⟩, h1⟩ := ok.str_some h
  refine ⟨fun p a pa => ?_, ?_⟩
  · rw [← ok.np_all hL p a]
    refine h1 _ _ (pl_ths (ok.adjLt pa).1 (by intro e; cases e)) (ok.tie_ths pa (by intro e; cases e)) fun e => ?_
    unfold tieOf at e
    cases e
  · obtain ⟨p, a, pa, q⟩ := ok.partOne tr h2 (Web.isTh_of a1) (Web.isTh_of a2) a3
    exact ⟨p, a, pa, by rw [← a4]; exact ok.cnt_le hL q⟩
theorem Web.Ok.tree_two (ok : W.Ok) (tr : W.tree) (h3 : 3 ≤ W.n) {L : List Nat} (hL : W.Lk L) {k : Kd} (hk : k ≠ .all) {m : Nat} (h : W.str L k = some m) :
    (∀ p a b, W.adj p a → W.adj p b → a ≠ b → m ≤ W.cnt L p a + W.cnt L p b) ∧ ∃ p a b, W.adj p a ∧ W.adj p b ∧ a ≠ b ∧ W.cnt L p a + W.cnt L p b ≤ m := by
  have ⟨⟨s, t, a1, a2, a3, a4⟩, h1⟩ := ok.str_some h
  refine ⟨fun p a b pa pb ne => ?_, ?_⟩
  · have ⟨q1, q2⟩ := ok.np_two tr hL pa pb ne
    cases k with
    | all => exact absurd rfl hk
    | places =>
      rw [← q1]
      exact h1 _ _ (pl_ths (ok.adjLt pa).2.1 (by intro e; cases e)) (pl_ths (ok.adjLt pb).2.1 (by intro e; cases e)) fun e => ne (Th.pl.inj e)
    | ties =>
      rw [← q2]
      exact h1 _ _ (ok.tie_ths pa (by intro e; cases e)) (ok.tie_ths pb (by intro e; cases e)) fun e => ne (tie_inj e)
  · have sm : same s t := by
      cases k with
      | all => exact absurd rfl hk
      | places =>
        obtain ⟨v, _, rfl⟩ := List.mem_map.mp a1
        obtain ⟨v, _, rfl⟩ := List.mem_map.mp a2
        trivial
      | ties =>
        obtain ⟨v, _, rfl⟩ := List.mem_map.mp a1
        obtain ⟨v, _, rfl⟩ := List.mem_map.mp a2
        trivial
    obtain ⟨p, a, b, pa, pb, ne, q⟩ := ok.partTwo tr h3 (Web.isTh_of a1) (Web.isTh_of a2) a3 sm
    exact ⟨p, a, b, pa, pb, ne, by rw [← a4]; exact ok.cnt_le2 tr hL pa pb ne q⟩
/-! ### the two least -/
def srt (l : List Nat) : List Nat := l.mergeSort fun a b => decide (a ≤ b)
theorem srt_perm (l : List Nat) : (srt l).Perm l := List.mergeSort_perm _ _
theorem srt_up (l : List Nat) : (srt l).Pairwise (· ≤ ·) := by
  refine List.Pairwise.imp (fun {a b} h => of_decide_eq_true h) (List.pairwise_mergeSort (le := fun a b => decide (a ≤ b)) (fun a b c h1 h2 => ?_) (fun a b => ?_) l)
  · exact decide_eq_true (Nat.le_trans (of_decide_eq_true h1) (of_decide_eq_true h2))
  · rw [Bool.or_eq_true, decide_eq_true_eq, decide_eq_true_eq]
    exact Nat.le_total a b
theorem srt_is {ks : List Int} {l : List Nat} (h : ks.Perm (l.map fun (u : Nat) => (u : Int))) (s : ks.Pairwise (· ≤ ·)) : ks = (srt l).map fun (u : Nat) => (u : Int) := by
  refine List.Perm.eq_of_pairwise (le := (· ≤ ·)) (fun a b _ _ h1 h2 => Int.le_antisymm h1 h2) s ?_ (h.trans ((srt_perm l).symm.map _))
  refine List.pairwise_map.mpr (List.Pairwise.imp (fun {a b} q => ?_) (srt_up l))
  omega
section
variable {l : List Nat} {f : Nat → Nat} {c d : Nat} {r : List Nat}
theorem srt_one (h : srt (l.map f) = c :: r) : (∃ a, a ∈ l ∧ f a = c) ∧ ∀ a, a ∈ l → c ≤ f a := by
  have p := srt_perm (l.map f)
  have u := srt_up (l.map f)
  rw [h] at p u
  refine ⟨?_, fun a ha => ?_⟩
  · exact List.mem_map.mp (p.mem_iff.mp List.mem_cons_self)
  · have hm : f a ∈ c :: r := p.mem_iff.mpr (List.mem_map.mpr ⟨a, ha, rfl⟩)
    rcases List.mem_cons.mp hm with q | q
    · omega
    · exact (List.pairwise_cons.mp u).1 _ q
theorem srt_two (hn : l.Nodup) (h : srt (l.map f) = c :: d :: r) : (∃ a b, a ∈ l ∧ b ∈ l ∧ a ≠ b ∧ f a = c ∧ f b = d) ∧ ∀ a b, a ∈ l → b ∈ l → a ≠ b → c + d ≤ f a + f b := by
  have p := srt_perm (l.map f)
  have u := srt_up (l.map f)
  rw [h] at p u
  have u1 := List.pairwise_cons.mp u
  have u2 := List.pairwise_cons.mp u1.2
  refine ⟨?_, fun a b ha hb ne => ?_⟩
  · obtain ⟨a, ha, ea⟩ := List.mem_map.mp (p.mem_iff.mp List.mem_cons_self)
    have p2 : (l.map f).Perm (f a :: (l.erase a).map f) := (List.perm_cons_erase ha).map f
    rw [ea] at p2
    have p3 := (p.trans p2).cons_inv
    obtain ⟨b, hb, eb⟩ := List.mem_map.mp (p3.mem_iff.mp List.mem_cons_self)
    have hb' := (List.Nodup.mem_erase_iff hn).mp hb
    exact ⟨a, b, ha, hb'.2, Ne.symm hb'.1, ea, eb⟩
  · have p2 : (l.map f).Perm (f a :: (l.erase a).map f) := (List.perm_cons_erase ha).map f
    have hb' : b ∈ l.erase a := (List.Nodup.mem_erase_iff hn).mpr ⟨Ne.symm ne, hb⟩
    have p3 := p.trans p2
    have hc : ∀ x, x ∈ l → c ≤ f x := (srt_one h).2
    by_cases q : f a = c
    · rw [q] at p3
      have hm : f b ∈ d :: r := p3.cons_inv.mem_iff.mpr (List.mem_map.mpr ⟨b, hb', rfl⟩)
      have : d ≤ f b := by
        rcases List.mem_cons.mp hm with z | z
        · omega
        · exact u2.1 _ z
      omega
    · have hm : f a ∈ c :: d :: r := p.mem_iff.mpr (List.mem_map.mpr ⟨a, ha, rfl⟩)
      have : d ≤ f a := by
        rcases List.mem_cons.mp hm with z | z
        · exact absurd z q
        · rcases List.mem_cons.mp z with z | z
          · omega
          · exact u2.1 _ z
      have := hc b hb
      omega
theorem srt_len : (srt (l.map f)).length = l.length := by
  rw [(srt_perm _).length_eq, List.length_map]
end
/-- what a place gives to the strength of a tree -/
noncomputable def Web.cs (W : Web) (L : List Nat) (p : Nat) : List Nat := srt ((W.nbr p).map fun a => W.cnt L p a)
def pick (k : Kd) (cs : List Nat) : Option Nat := match k, cs with
  | .all, c :: _ => some c
  | .all, [] => none
  | _, c :: d :: _ => some (c + d)
  | _, _ => none
noncomputable def Web.tsL (W : Web) (L : List Nat) (k : Kd) (m : Nat) : List Nat := (List.range m).filterMap fun p => pick k (W.cs L p)
theorem Web.tsL_succ (W : Web) (L : List Nat) (k : Kd) (m : Nat) : W.tsL L k (m + 1) = W.tsL L k m ++ (pick k (W.cs L m)).toList := by
  unfold Web.tsL
  rw [List.range_succ, List.filterMap_append]
  congr 1
theorem Web.Ok.tree_str (ok : W.Ok) (tr : W.tree) {L : List Nat} (hL : W.Lk L) {k : Kd} (h : 3 ≤ W.n ∨ (k = .all ∧ 2 ≤ W.n)) {m : Nat} (hs : W.str L k = some m) : m ∈ W.tsL L k W.n ∧ ∀ x, x ∈ W.tsL L k W.n → m ≤ x := by
  have mem : ∀ x, x ∈ W.tsL L k W.n ↔ ∃ p, p < W.n ∧ pick k (W.cs L p) = some x := fun x => by
    unfold Web.tsL
    rw [List.mem_filterMap]
    exact ⟨fun ⟨p, a, b⟩ => ⟨p, List.mem_range.mp a, b⟩, fun ⟨p, a, b⟩ => ⟨p, List.mem_range.mpr a, b⟩⟩
  have key : (∀ x, x ∈ W.tsL L k W.n → m ≤ x) ∧ ∃ x, x ∈ W.tsL L k W.n ∧ x ≤ m := by
    by_cases hk : k = .all
    · subst hk
      have h2 : 2 ≤ W.n := by rcases h with h | h <;> omega
      have ⟨q1, p, a, pa, q2⟩ := ok.tree_all tr h2 hL hs
      refine ⟨fun x hx => ?_, ?_⟩
      · obtain ⟨p, hp, e⟩ := (mem x).mp hx
        cases z : W.cs L p with
        | nil => rw [z] at e; cases e
        | cons c r =>
          rw [z] at e
          cases e
          obtain ⟨⟨b, hb, eb⟩, _⟩ := srt_one z
          have := q1 p b (ok.mem_nbr.mp hb)
          omega
      · have ha := ok.mem_nbr.mpr pa
        cases z : W.cs L p with
        | nil =>
          have := srt_len (l := W.nbr p) (f := fun a => W.cnt L p a)
          have z' : srt ((W.nbr p).map fun a => W.cnt L p a) = [] := z
          rw [z'] at this
          have := List.length_pos_of_mem ha
          simp at *
          omega
        | cons c r =>
          refine ⟨c, (mem c).mpr ⟨p, (ok.adjLt pa).1, by rw [z]; rfl⟩, ?_⟩
          have := (srt_one z).2 a ha
          omega
    · have h3 : 3 ≤ W.n := by
        rcases h with h | h
        · exact h
        · exact absurd h.1 hk
      have pk : ∀ c d r, pick k (c :: d :: r) = some (c + d) := fun c d r => by
        cases k with
        | all => exact absurd rfl hk
        | places => rfl
        | ties => rfl
      have pk0 : pick k [] = none := by
        cases k with
        | all => exact absurd rfl hk
        | places => rfl
        | ties => rfl
      have pk1 : ∀ c, pick k [c] = none := fun c => by
        cases k with
        | all => exact absurd rfl hk
        | places => rfl
        | ties => rfl
      have ⟨q1, p, a, b, pa, pb, ne, q2⟩ := ok.tree_two tr h3 hL hk hs
      refine ⟨fun x hx => ?_, ?_⟩
      · obtain ⟨p, hp, e⟩ := (mem x).mp hx
        cases z : W.cs L p with
        | nil => rw [z, pk0] at e; cases e
        | cons c r =>
          cases r with
          | nil => rw [z, pk1] at e; cases e
          | cons d r =>
            rw [z, pk] at e
            cases e
            obtain ⟨⟨x, y, hx, hy, ne, ex, ey⟩, _⟩ := srt_two (W.nd_nbr p) z
            have := q1 p x y (ok.mem_nbr.mp hx) (ok.mem_nbr.mp hy) ne
            omega
      · have ha := ok.mem_nbr.mpr pa
        have hb := ok.mem_nbr.mpr pb
        have hl : 2 ≤ (W.nbr p).length := by
          have := nd_len (l := [a, b]) (m := W.nbr p) (by simp [ne]) fun x hx => by
            rcases List.mem_cons.mp hx with q | q
            · rw [q]; exact ha
            · rw [List.mem_singleton.mp q]; exact hb
          exact this
        have hl2 := srt_len (l := W.nbr p) (f := fun a => W.cnt L p a)
        have hl3 : (W.cs L p).length = (W.nbr p).length := hl2
        cases z : W.cs L p with
        | nil => rw [z] at hl3; simp at hl3; omega
        | cons c r =>
          cases r with
          | nil => rw [z] at hl3; simp at hl3; omega
          | cons d r =>
            refine ⟨c + d, (mem _).mpr ⟨p, (ok.adjLt pa).1, by rw [z, pk]⟩, ?_⟩
            have := (srt_two (W.nd_nbr p) z).2 a b ha hb ne
            omega
  obtain ⟨k1, x, hx, k2⟩ := key
  have := k1 x hx
  exact ⟨by rw [show m = x by omega]; exact hx, k1⟩
end Fx
set_option autoImplicit false
set_option linter.all false
namespace Fx
variable {W : Web}
/-! ### the rounds from a place -/
structure Bfs (W : Web) (r : Nat) (g : Nat → Nat) (line : List Nat) (at_ : Nat) : Prop where
  r0 : g r = 0
  rm : r ∈ line
  lt : ∀ v, v ∈ line → v < W.n
  nd : line.Nodup
  up : ∀ (i j u v : Nat), i ≤ j → line[i]? = some u → line[j]? = some v → g u ≤ g v
  cap : ∀ u, line[at_]? = some u → ∀ v, v ∈ line → g v ≤ g u + 1
  done : ∀ (i u : Nat), i < at_ → line[i]? = some u → ∀ v, W.adj u v → v ∈ line ∧ g v ≤ g u + 1
  back : ∀ v, v ∈ line → v ≠ r → ∃ u, u ∈ line ∧ W.adj u v ∧ g u + 1 = g v
structure BfsI (W : Web) (r : Nat) (g : Nat → Nat) (line : List Nat) (at_ u k : Nat) : Prop where
  b : Bfs W r g line at_
  here : line[at_]? = some u
  some_ : ∀ (i v : Nat), i < k → (W.nbr u)[i]? = some v → v ∈ line ∧ g v ≤ g u + 1
theorem Bfs.start (W : Web) {r : Nat} (hr : r < W.n) : Bfs W r (fun _ => 0) [r] 0 where
  r0 := rfl
  rm := List.mem_singleton.mpr rfl
  lt := fun v h => by rw [List.mem_singleton.mp h]; exact hr
  nd := by simp
  up := fun _ _ _ _ _ _ _ => Nat.le_refl _
  cap := fun _ _ _ _ => Nat.zero_le _
  done := fun i u h => by omega
  back := fun v h hne => absurd (List.mem_singleton.mp h) hne
theorem Bfs.len {r : Nat} {g : Nat → Nat} {line : List Nat} {k : Nat} (b : Bfs W r g line k) : line.length ≤ W.n := by
  have := nd_len b.nd (m := List.range W.n) fun v h => List.mem_range.mpr (b.lt v h)
  rw [List.length_range] at this
  exact this
theorem Bfs.inner {r : Nat} {g : Nat → Nat} {line : List Nat} {k u : Nat} (b : Bfs W r g line k) (h : line[k]? = some u) : BfsI W r g line k u 0 := ⟨b, h, fun i v h => by omega⟩
theorem BfsI.old {r : Nat} {g : Nat → Nat} {line : List Nat} {a u k v : Nat} (b : BfsI W r g line a u k) (h : (W.nbr u)[k]? = some v) (hv : v ∈ line) : BfsI W r g line a u (k + 1) :=
  ⟨b.b, b.here, fun i x hi hx => by
    by_cases q : i = k
    · rw [q, h] at hx
      cases hx
      exact ⟨hv, b.b.cap u b.here v hv⟩
    · exact b.some_ i x (by omega) hx⟩
def addG (g : Nat → Nat) (v k : Nat) : Nat → Nat := fun x => if x = v then k else g x
theorem BfsI.new (ok : W.Ok) {r : Nat} {g : Nat → Nat} {line : List Nat} {a u k v : Nat} (b : BfsI W r g line a u k) (h : (W.nbr u)[k]? = some v) (hv : v ∉ line) : BfsI W r (addG g v (g u + 1)) (line ++ [v]) a u (k + 1) := by
  have hu : u ∈ line := List.mem_of_getElem? b.here
  have hadj : W.adj u v := ok.mem_nbr.mp (List.mem_of_getElem? h)
  have hvn := (ok.adjLt hadj).2.1
  have hg : ∀ x, x ∈ line → addG g v (g u + 1) x = g x := fun x hx => by
    unfold addG
    rw [if_neg (fun q => hv (by rw [← q]; exact hx))]
  have hgv : addG g v (g u + 1) v = g u + 1 := by
    unfold addG
    rw [if_pos rfl]
  have gt : ∀ (i x : Nat), (line ++ [v])[i]? = some x → line[i]? = some x ∨ (i = line.length ∧ x = v) := fun i x hx => by
    by_cases q : i < line.length
    · rw [List.getElem?_append_left q] at hx
      exact .inl hx
    · rw [List.getElem?_append_right (by omega)] at hx
      have hl := (List.getElem?_eq_some_iff.mp hx).1
      simp only [List.length_singleton] at hl
      have : i - line.length = 0 := by omega
      rw [this] at hx
      simp only [List.getElem?_cons_zero] at hx
      cases hx
      exact .inr ⟨by omega, rfl⟩
  have here : (line ++ [v])[a]? = some u := by
    rw [List.getElem?_append_left (List.getElem?_eq_some_iff.mp b.here).1]
    exact b.here
  have mem : ∀ x, x ∈ line ++ [v] → x ∈ line ∨ x = v := fun x hx => by
    rcases List.mem_append.mp hx with q | q
    · exact .inl q
    · exact .inr (List.mem_singleton.mp q)
  refine ⟨⟨?_, List.mem_append_left _ b.b.rm, fun x hx => ?_, ?_, fun i j x y hij hx hy => ?_, fun x hx y hy => ?_, fun i x hi hx y hy => ?_, fun x hx hne => ?_⟩, here, fun i x hi hx => ?_⟩
  · rw [hg r b.b.rm]
    exact b.b.r0
  · rcases mem x hx with q | q
    · exact b.b.lt x q
    · rw [q]; exact hvn
  · exact List.nodup_append.mpr ⟨b.b.nd, by simp, fun x hx y hy e => by
      rw [List.mem_singleton] at hy
      exact hv (by rw [← hy, ← e]; exact hx)⟩
  · rcases gt i x hx with q | ⟨q1, q2⟩
    · rw [hg x (List.mem_of_getElem? q)]
      rcases gt j y hy with z | ⟨z1, z2⟩
      · rw [hg y (List.mem_of_getElem? z)]
        exact b.b.up i j x y hij q z
      · rw [z2, hgv]
        exact b.b.cap u b.here x (List.mem_of_getElem? q)
    · rcases gt j y hy with z | ⟨z1, z2⟩
      · have := (List.getElem?_eq_some_iff.mp z).1
        omega
      · rw [q2, z2]
        exact Nat.le_refl _
  · rw [here] at hx
    cases hx
    rw [hg u hu]
    rcases mem y hy with q | q
    · rw [hg y q]
      exact b.b.cap u b.here y q
    · rw [q, hgv]
      exact Nat.le_refl _
  · have hi2 : line[i]? = some x := by
      rcases gt i x hx with q | ⟨q1, q2⟩
      · exact q
      · have := (List.getElem?_eq_some_iff.mp b.here).1
        omega
    have ⟨m1, m2⟩ := b.b.done i x hi hi2 y hy
    rw [hg x (List.mem_of_getElem? hi2), hg y m1]
    exact ⟨List.mem_append_left _ m1, m2⟩
  · rcases mem x hx with q | q
    · obtain ⟨z, z1, z2, z3⟩ := b.b.back x q hne
      exact ⟨z, List.mem_append_left _ z1, z2, by rw [hg z z1, hg x q]; exact z3⟩
    · rw [q]
      exact ⟨u, List.mem_append_left _ hu, hadj, by rw [hg u hu, hgv]⟩
  · rw [hg u hu]
    by_cases q : i = k
    · rw [q, h] at hx
      cases hx
      exact ⟨List.mem_append_right _ (List.mem_singleton.mpr rfl), by rw [hgv]; exact Nat.le_refl _⟩
    · have ⟨m1, m2⟩ := b.some_ i x (by omega) hx
      exact ⟨List.mem_append_left _ m1, by rw [hg x m1]; exact m2⟩
theorem BfsI.next (ok : W.Ok) {r : Nat} {g : Nat → Nat} {line : List Nat} {a u k : Nat} (b : BfsI W r g line a u k) (h : (W.nbr u).length ≤ k) : Bfs W r g line (a + 1) :=
  ⟨b.b.r0, b.b.rm, b.b.lt, b.b.nd, b.b.up, fun x hx v hv => by
    have h1 := b.b.cap u b.here v hv
    have h2 := b.b.up a (a + 1) u x (by omega) b.here hx
    omega, fun i x hi hx v hv => by
    by_cases q : i = a
    · rw [q, b.here] at hx
      cases hx
      obtain ⟨j, hj, e⟩ := List.mem_iff_getElem.mp (ok.mem_nbr.mpr hv)
      exact b.some_ j v (by omega) (by rw [List.getElem?_eq_getElem hj, e])
    · exact b.b.done i x (by omega) hx v hv, b.b.back⟩
theorem Bfs.all (ok : W.Ok) {r : Nat} (hr : r < W.n) {g : Nat → Nat} {line : List Nat} {a : Nat} (b : Bfs W r g line a) (h : line.length ≤ a) : ∀ v, v < W.n → v ∈ line ∧ g v = W.D r v := by
  have dn : ∀ u, u ∈ line → ∀ v, W.adj u v → v ∈ line ∧ g v ≤ g u + 1 := fun u hu => by
    obtain ⟨i, hi, e⟩ := List.mem_iff_getElem.mp hu
    exact b.done i u (by omega) (by rw [List.getElem?_eq_getElem hi, e])
  have mem := ok.connAt hr (fun v => v ∈ line) b.rm fun u v a hu => (dn u hu v a).1
  have isD : W.IsD r g := ⟨b.r0, fun u v a => (dn u (mem u (ok.adjLt a).1) v a).2, fun v hv hne => by
    obtain ⟨u, _, a, e⟩ := b.back v (mem v hv) hne
    exact ⟨u, a, e⟩⟩
  exact fun v hv => ⟨mem v hv, isD.eq ok hr v hv⟩
/-! ### the places of a piece -/
theorem Web.Ok.piece_step (ok : W.Ok) (tr : W.tree) {p a u v : Nat} (pa : W.adj p a) (uv : W.adj u v) (hu : W.D u a < W.D u p) (hv : v ≠ p) : W.D v a < W.D v p := by
  have lu := (ok.adjLt uv).1
  have lv := (ok.adjLt uv).2.1
  have lp := (ok.adjLt pa).1
  have la := (ok.adjLt pa).2.1
  rcases ok.bip tr lv pa with h | h
  · -- D v p + 1 = D v a
    rcases ok.bip tr lu pa with h2 | h2
    · omega
    · have ha := ok.bip tr la uv
      have hp := ok.bip tr lp uv
      rw [ok.symm la lu, ok.symm la lv] at ha
      rw [ok.symm lp lu, ok.symm lp lv] at hp
      have e1 : W.D v p + 1 = W.D u p := by omega
      obtain ⟨b, pb, hb⟩ := ok.step lp lv (ok.pos_of_ne lv lp hv)
      have lb := (ok.adjLt pb).2.1
      have t := (ok.isD lb).near v u uv.symm
      rw [ok.symm lb lu, ok.symm lb lv] at t
      have := ok.uniq tr lu pa pb hu (by omega)
      rw [this] at h
      omega
  · omega
structure Pcs (W : Web) (p a : Nat) (line : List Nat) (k : Nat) : Prop where
  am : a ∈ line
  nd : line.Nodup
  good : ∀ v, v ∈ line → v < W.n ∧ W.D v a < W.D v p
  done : ∀ (i u : Nat), i < k → line[i]? = some u → ∀ v, W.adj u v → v ≠ p → v ∈ line
structure PcsI (W : Web) (p a : Nat) (line : List Nat) (k u m : Nat) : Prop where
  b : Pcs W p a line k
  here : line[k]? = some u
  some_ : ∀ (i v : Nat), i < m → (W.nbr u)[i]? = some v → v ≠ p → v ∈ line
theorem Pcs.start (ok : W.Ok) {p a : Nat} (pa : W.adj p a) : Pcs W p a [a] 0 where
  am := List.mem_singleton.mpr rfl
  nd := by simp
  good := fun v h => by
    rw [List.mem_singleton.mp h]
    have l := ok.adjLt pa
    refine ⟨l.2.1, ?_⟩
    rw [ok.refl0 l.2.1]
    exact ok.pos_of_ne l.2.1 l.1 (Ne.symm l.2.2)
  done := fun i u h => by omega
theorem Pcs.off (ok : W.Ok) {p a : Nat} (hp : p < W.n) {line : List Nat} {k : Nat} (b : Pcs W p a line k) : p ∉ line := fun h => by
  have := (b.good p h).2
  rw [ok.refl0 hp] at this
  omega
theorem Pcs.len {p a : Nat} {line : List Nat} {k : Nat} (b : Pcs W p a line k) : line.length ≤ W.n := by
  have := nd_len b.nd (m := List.range W.n) fun v h => List.mem_range.mpr (b.good v h).1
  rw [List.length_range] at this
  exact this
theorem Pcs.inner {p a : Nat} {line : List Nat} {k u : Nat} (b : Pcs W p a line k) (h : line[k]? = some u) : PcsI W p a line k u 0 := ⟨b, h, fun i v h => by omega⟩
theorem PcsI.old {p a : Nat} {line : List Nat} {k u m v : Nat} (b : PcsI W p a line k u m) (h : (W.nbr u)[m]? = some v) (hv : v = p ∨ v ∈ line) : PcsI W p a line k u (m + 1) :=
  ⟨b.b, b.here, fun i x hi hx hne => by
    by_cases q : i = m
    · rw [q, h] at hx
      cases hx
      rcases hv with z | z
      · exact absurd z hne
      · exact z
    · exact b.some_ i x (by omega) hx hne⟩
theorem PcsI.new (ok : W.Ok) (tr : W.tree) {p a : Nat} (pa : W.adj p a) {line : List Nat} {k u m v : Nat} (b : PcsI W p a line k u m) (h : (W.nbr u)[m]? = some v) (hp : v ≠ p) (hv : v ∉ line) : PcsI W p a (line ++ [v]) k u (m + 1) := by
  have hu : u ∈ line := List.mem_of_getElem? b.here
  have hadj : W.adj u v := ok.mem_nbr.mp (List.mem_of_getElem? h)
  have kl := (List.getElem?_eq_some_iff.mp b.here).1
  refine ⟨⟨List.mem_append_left _ b.b.am, ?_, fun x hx => ?_, fun i x hi hx y hy hne => ?_⟩, ?_, fun i x hi hx hne => ?_⟩
  · exact List.nodup_append.mpr ⟨b.b.nd, by simp, fun x hx y hy e => by
      rw [List.mem_singleton] at hy
      exact hv (by rw [← hy, ← e]; exact hx)⟩
  · rcases List.mem_append.mp hx with q | q
    · exact b.b.good x q
    · rw [List.mem_singleton.mp q]
      exact ⟨(ok.adjLt hadj).2.1, ok.piece_step tr pa hadj (b.b.good u hu).2 hp⟩
  · rw [List.getElem?_append_left (by omega)] at hx
    exact List.mem_append_left _ (b.b.done i x hi hx y hy hne)
  · rw [List.getElem?_append_left kl]
    exact b.here
  · by_cases q : i = m
    · rw [q, h] at hx
      cases hx
      exact List.mem_append_right _ (List.mem_singleton.mpr rfl)
    · exact List.mem_append_left _ (b.some_ i x (by omega) hx hne)
theorem PcsI.next (ok : W.Ok) {p a : Nat} {line : List Nat} {k u m : Nat} (b : PcsI W p a line k u m) (h : (W.nbr u).length ≤ m) : Pcs W p a line (k + 1) :=
  ⟨b.b.am, b.b.nd, b.b.good, fun i x hi hx v hv hne => by
    by_cases q : i = k
    · rw [q, b.here] at hx
      cases hx
      obtain ⟨j, hj, e⟩ := List.mem_iff_getElem.mp (ok.mem_nbr.mpr hv)
      exact b.some_ j v (by omega) (by rw [List.getElem?_eq_getElem hj, e]) hne
    · exact b.b.done i x (by omega) hx v hv hne⟩
theorem Pcs.all (ok : W.Ok) {p a : Nat} (pa : W.adj p a) {line : List Nat} {k : Nat} (b : Pcs W p a line k) (h : line.length ≤ k) : ∀ v, v ∈ line ↔ v < W.n ∧ decide (W.D v a < W.D v p) = true := by
  have lp := (ok.adjLt pa).1
  have la := (ok.adjLt pa).2.1
  have dn : ∀ u, u ∈ line → ∀ v, W.adj u v → v ≠ p → v ∈ line := fun u hu => by
    obtain ⟨i, hi, e⟩ := List.mem_iff_getElem.mp hu
    exact b.done i u (by omega) (by rw [List.getElem?_eq_getElem hi, e])
  have go : ∀ (d v : Nat), v < W.n → W.D v a = d → W.D v a < W.D v p → v ∈ line := by
    intro d
    induction d with
    | zero =>
      intro v hv e _
      by_cases q : v = a
      · rw [q]; exact b.am
      · have := ok.pos_of_ne hv la q
        omega
    | succ d ih =>
      intro v hv e hl
      obtain ⟨u, vu, hu⟩ := ok.step hv la (by rw [ok.symm la hv]; omega)
      have lu := (ok.adjLt vu).2.1
      rw [ok.symm la lu, ok.symm la hv] at hu
      have t := (ok.isD lp).near u v vu.symm
      rw [ok.symm lp hv, ok.symm lp lu] at t
      have hm := ih u lu (by omega) (by omega)
      refine dn u hm v vu.symm fun q => ?_
      rw [q, ok.refl0 lp] at hl
      omega
  intro v
  rw [decide_eq_true_eq]
  exact ⟨fun hm => b.good v hm, fun hm => go _ v hm.1 rfl hm.2⟩
end Fx
set_option Elab.async false
set_option linter.all false
set_option maxRecDepth 100000
set_option autoImplicit false
namespace Fx
open PySem PySem.Spec PyProof.Rows L2
abbrev Sg := L2.St
/-! ### heaps that grow -/
def Ex (H H' : Hp) : Prop := ∀ a o, H a = some o → H' a = some o
theorem Ex.refl (H : Hp) : Ex H H := fun _ _ h => h
theorem Ex.trans {H H1 H2 : Hp} (a : Ex H H1) (b : Ex H1 H2) : Ex H H2 := fun x o h => b x o (a x o h)
theorem Ex.free {H H' : Hp} (e : Ex H H') {p : Addr} (h : H' p = none) : H p = none := by
  cases q : H p with
  | none => rfl
  | some o =>
    have := e p o q
    rw [h] at this
    cases this
theorem Ex.new {H : Hp} {p : Addr} {o : HO} (h : H p = none) : Ex H (upd H p o) := fun a u e => by
  rw [upd_ne (ne_of_none e h)]
  exact e
theorem Ex.mut {H H' : Hp} {p : Addr} {o : HO} (e : Ex H H') (h : H p = none) : Ex H (upd H' p o) := fun a u ha => by
  rw [upd_ne (ne_of_none ha h)]
  exact e a u ha
theorem Ex.both {B H : Hp} {p : Addr} {o : HO} (e : Ex B H) : Ex (upd B p o) (upd H p o) := fun a u ha => by
  by_cases q : a = p
  · rw [q, upd_same] at ha
    rw [q, upd_same]
    exact ha
  · rw [upd_ne q] at ha
    rw [upd_ne q]
    exact e a u ha
theorem Ex.at {B H : Hp} {p : Addr} {o : HO} (e : Ex B H) (h : H p = some o) : Ex (upd B p o) H := fun a u ha => by
  by_cases q : a = p
  · rw [q, upd_same] at ha
    rw [q, h]
    exact ha
  · rw [upd_ne q] at ha
    exact e a u ha
theorem Ex.rd {H H' : Hp} (e : Ex H H') {a : Addr} {u : HO} (h : Rd H a u) : Rd H' a u := by
  rcases h with h | ⟨o, h⟩
  · exact Or.inl (e a _ h)
  · exact Or.inr ⟨o, e a _ h⟩
theorem Ex.sl {K : PySem.W.Frag} {H H' : Hp} (e : Ex H H') {a : Addr} {xs : List V} (h : SqL K H a xs) : SqL K H' a xs := by
  rcases h with h | h
  · exact Or.inl (e.rd h)
  · exact Or.inr h
theorem Ex.st {K : PySem.W.Frag} {H H' : Hp} (e : Ex H H') {a : Addr} {xs : List V} (h : SqT K H a xs) : SqT K H' a xs := by
  rcases h with h | h
  · exact Or.inl (e.rd h)
  · exact Or.inr h
mutual
theorem Dp.up {K : PySem.W.Frag} {H H' : Hp} (e : Ex H H') : ∀ (d : PyData) (v : V), Dp K H v d → Dp K H' v d
  | .none, _, h => by cases h; exact .non
  | .bool b, _, h => by cases h; exact .bl b
  | .int i, _, h => by cases h; exact .int i
  | .str x, _, h => by cases h; exact .str x
  | .list ds, _, h => by
    cases h with
    | lst hs ha => exact .lst (e.sl hs) (Dp.ups e ds _ ha)
  | .tuple ds, _, h => by
    cases h with
    | tup hs ha => exact .tup (e.st hs) (Dp.ups e ds _ ha)
  | .dict _, _, h => by cases h
theorem Dp.ups {K : PySem.W.Frag} {H H' : Hp} (e : Ex H H') : ∀ (ds : List PyData) (vs : List V), DpAll K H vs ds → DpAll K H' vs ds
  | [], _, h => by cases h; exact .nil
  | d :: ds, _, h => by
    cases h with
    | cons h1 h2 => exact .cons (Dp.up e d _ h1) (Dp.ups e ds _ h2)
end
theorem dm {K : PySem.W.Frag} {H H' : Hp} {v : V} {d : PyData} (e : Ex H H') (h : Dp K H v d) : Dp K H' v d := Dp.up e d v h
theorem dms {K : PySem.W.Frag} {H H' : Hp} {vs : List V} {ds : List PyData} (e : Ex H H') (h : DpAll K H vs ds) : DpAll K H' vs ds := Dp.ups e ds vs h
section
variable {K : PySem.W.Frag} {H H' : Hp} {v : V} {vs ws : List V} {d : PyData} {ds es : List PyData}
theorem Dpi {i : Int} (h : Dp K H v (.int i)) : v = .int i := by cases h; rfl
theorem Dpb {b : Bool} (h : Dp K H v (.bool b)) : v = .bl b := by cases h; rfl
theorem Dpn (h : Dp K H v .none) : v = .non := by cases h; rfl
theorem Dps {x : Str} (h : Dp K H v (.str x)) : v = .str x := by cases h; rfl
theorem Dpl (h : Dp K H v (.list ds)) : ∃ a xs, v = .ref a ∧ SqL K H a xs ∧ DpAll K H xs ds := by
  cases h with
  | lst hs ha => exact ⟨_, _, rfl, hs, ha⟩
theorem Dpt (h : Dp K H v (.tuple ds)) : ∃ a xs, v = .ref a ∧ SqT K H a xs ∧ DpAll K H xs ds := by
  cases h with
  | tup hs ha => exact ⟨_, _, rfl, hs, ha⟩
theorem da_len : ∀ {vs : List V} {ds : List PyData}, DpAll K H vs ds → vs.length = ds.length := by
  intro vs ds
  induction ds generalizing vs with
  | nil =>
    intro h
    cases h
    rfl
  | cons d ds ih =>
    intro h
    cases h with
    | cons h1 h2 =>
      simp only [List.length_cons]
      rw [ih h2]
theorem da_get : ∀ {ds : List PyData} {vs : List V} {i : Nat} {d : PyData}, DpAll K H vs ds → ds[i]? = some d → ∃ v, vs[i]? = some v ∧ Dp K H v d := by
  intro ds
  induction ds with
  | nil =>
    intro vs i d h e
    simp at e
  | cons x ds ih =>
    intro vs i d h e
    cases h with
    | cons h1 h2 =>
      cases i with
      | zero =>
        simp only [List.getElem?_cons_zero] at e
        cases e
        exact ⟨_, rfl, h1⟩
      | succ i =>
        simp only [List.getElem?_cons_succ] at e
        obtain ⟨v, hv, hd⟩ := ih h2 e
        exact ⟨v, by simpa using hv, hd⟩
theorem da_getV {i : Nat} (h : DpAll K H vs ds) (e : vs[i]? = some v) : ∃ d, ds[i]? = some d ∧ Dp K H v d := by
  have l := da_len h
  have hi := (List.getElem?_eq_some_iff.mp e).1
  have hd : ds[i]? = some (ds[i]'(by omega)) := List.getElem?_eq_getElem (by omega)
  obtain ⟨w, hw, hq⟩ := da_get h hd
  rw [e] at hw
  cases hw
  exact ⟨_, hd, hq⟩
theorem da_app : ∀ {vs ws : List V} {ds es : List PyData}, DpAll K H vs ds → DpAll K H ws es → DpAll K H (vs ++ ws) (ds ++ es) := by
  intro vs ws ds es h h2
  induction ds generalizing vs with
  | nil =>
    cases h
    exact h2
  | cons d ds ih =>
    cases h with
    | cons a b => exact .cons a (ih b)
theorem da_one (h : Dp K H v d) : DpAll K H [v] [d] := .cons h .nil
theorem da_snoc (h : DpAll K H vs ds) (h2 : Dp K H v d) : DpAll K H (vs ++ [v]) (ds ++ [d]) := da_app h (da_one h2)
theorem da_of : ∀ {vs : List V} {ds : List PyData}, vs.length = ds.length → (∀ (i : Nat) (v : V) (d : PyData), vs[i]? = some v → ds[i]? = some d → Dp K H v d) → DpAll K H vs ds := by
  intro vs ds
  induction ds generalizing vs with
  | nil =>
    intro h _
    cases vs with
    | nil => exact .nil
    | cons _ _ => simp at h
  | cons d ds ih =>
    intro h f
    cases vs with
    | nil => simp at h
    | cons v vs => exact .cons (f 0 v d rfl rfl) (ih (by simpa using h) fun i v d h1 h2 => f (i + 1) v d (by simpa using h1) (by simpa using h2))
theorem da_take {n : Nat} (h : DpAll K H vs ds) : DpAll K H (vs.take n) (ds.take n) := by
  refine da_of (by rw [List.length_take, List.length_take, da_len h]) fun i v d h1 h2 => ?_
  rw [List.getElem?_take] at h1 h2
  by_cases q : i < n
  · rw [if_pos q] at h1 h2
    obtain ⟨w, hw, r⟩ := da_get h h2
    rw [h1] at hw
    cases hw
    exact r
  · rw [if_neg q] at h1
    cases h1
theorem da_drop {n : Nat} (h : DpAll K H vs ds) : DpAll K H (vs.drop n) (ds.drop n) := by
  refine da_of (by rw [List.length_drop, List.length_drop, da_len h]) fun i v d h1 h2 => ?_
  rw [List.getElem?_drop] at h1 h2
  obtain ⟨w, hw, r⟩ := da_get h h2
  rw [h1] at hw
  cases hw
  exact r
theorem da_set {i : Nat} (h : DpAll K H vs ds) (h2 : Dp K H v d) : DpAll K H (vs.set i v) (ds.set i d) := by
  refine da_of (by rw [List.length_set, List.length_set, da_len h]) fun j x y h1 h3 => ?_
  have l := da_len h
  rw [List.getElem?_set] at h1 h3
  by_cases q : i = j
  · rw [if_pos q] at h1 h3
    by_cases q2 : i < vs.length
    · rw [if_pos q2] at h1
      rw [if_pos (by omega)] at h3
      cases h1
      cases h3
      exact h2
    · rw [if_neg q2] at h1
      cases h1
  · rw [if_neg q] at h1 h3
    obtain ⟨w, hw, r⟩ := da_get h h3
    rw [h1] at hw
    cases hw
    exact r
theorem da1 (h : DpAll K H vs [d]) : ∃ v, vs = [v] ∧ Dp K H v d := by
  cases h with
  | cons a b =>
    cases b
    exact ⟨_, rfl, a⟩
theorem da2 {e : PyData} (h : DpAll K H vs [d, e]) : ∃ v w, vs = [v, w] ∧ Dp K H v d ∧ Dp K H w e := by
  cases h with
  | cons a b =>
    obtain ⟨w, rfl, hw⟩ := da1 b
    exact ⟨_, _, rfl, a, hw⟩
theorem da3 {e f : PyData} (h : DpAll K H vs [d, e, f]) : ∃ v w u, vs = [v, w, u] ∧ Dp K H v d ∧ Dp K H w e ∧ Dp K H u f := by
  cases h with
  | cons a b =>
    obtain ⟨w, u, rfl, hw, hu⟩ := da2 b
    exact ⟨_, _, _, rfl, a, hw, hu⟩
theorem da5 {e f g i : PyData} (h : DpAll K H vs [d, e, f, g, i]) : ∃ v w u y z, vs = [v, w, u, y, z] ∧ Dp K H v d ∧ Dp K H w e ∧ Dp K H u f ∧ Dp K H y g ∧ Dp K H z i := by
  cases h with
  | cons a b =>
    cases b with
    | cons a2 b2 =>
      obtain ⟨w, u, y, rfl, hw, hu, hy⟩ := da3 b2
      exact ⟨_, _, _, _, _, rfl, a, a2, hw, hu, hy⟩
theorem da_ints : ∀ (ns : List Int), DpAll K H (ns.map V.int) (ns.map PyData.int)
  | [] => .nil
  | n :: ns => .cons (.int n) (da_ints ns)
theorem da_intsV : ∀ {ns : List Int} {vs : List V}, DpAll K H vs (ns.map PyData.int) → vs = ns.map V.int
  | [], _, h => by cases h; rfl
  | n :: ns, _, h => by
    cases h with
    | cons a b => rw [Dpi a, da_intsV b]; rfl
theorem da_boolsV : ∀ {bs : List Bool} {vs : List V}, DpAll K H vs (bs.map PyData.bool) → vs = bs.map V.bl
  | [], _, h => by cases h; rfl
  | n :: ns, _, h => by
    cases h with
    | cons a b => rw [Dpb a, da_boolsV b]; rfl
end
/-! ### what is told (B), all that stands (H): both grow -/
structure Gr (B H B' H' : Hp) : Prop where
  bb : Ex B B'
  bh : Ex B' H'
  hh : Ex H H'
  fp : ∀ a, B' a ≠ none → B a ≠ none ∨ H a = none
section
variable {B H B' H' B2 H2 : Hp}
theorem Gr.refl (e : Ex B H) : Gr B H B H := ⟨Ex.refl B, e, Ex.refl H, fun _ h => .inl h⟩
theorem Gr.trans (g : Gr B H B' H') (g2 : Gr B' H' B2 H2) : Gr B H B2 H2 := ⟨g.bb.trans g2.bb, g2.bh, g.hh.trans g2.hh, fun a h => by
  rcases g2.fp a h with q | q
  · exact g.fp a q
  · exact .inr (g.hh.free q)⟩
theorem Gr.keep (e : Ex B H) (g : Gr B H B' H') : Gr B H B H' := ⟨Ex.refl B, e.trans g.hh, g.hh, fun _ h => .inl h⟩
theorem Gr.new {p : Addr} {o : HO} (e : Ex B H) (h : H p = none) : Gr B H (upd B p o) (upd H p o) := ⟨Ex.new (e.free h), e.both, Ex.new h, fun a q => by
  by_cases z : a = p
  · rw [z]; exact .inr h
  · rw [upd_ne z] at q; exact .inl q⟩
theorem Gr.tmp {p : Addr} {o : HO} (e : Ex B H) (h : H p = none) : Gr B H B (upd H p o) := ⟨Ex.refl B, e.trans (Ex.new h), Ex.new h, fun a q => .inl q⟩
theorem Gr.mut {p : Addr} {o : HO} (g : Gr B H B' H') (h : H p = none) (hb : B' p = none) : Gr B H B' (upd H' p o) := ⟨g.bb, g.bh.mut hb, g.hh.mut h, g.fp⟩
theorem Gr.own {p : Addr} {o : HO} (g : Gr B H B' H') (h : H p = none) (hb : B' p = none) (hp : H' p = some o) : Gr B H (upd B' p o) H' := ⟨g.bb.trans (Ex.new hb), g.bh.at hp, g.hh, fun a q => by
  by_cases z : a = p
  · rw [z]; exact .inr h
  · rw [upd_ne z] at q; exact g.fp a q⟩
theorem Gr.off {p : Addr} (g : Gr B H B' H') (hb : B p = Option.none) (hp : H p ≠ Option.none) : B' p = Option.none := by
  cases q : B' p with
  | none => rfl
  | some o =>
    rcases g.fp p (by rw [q]; exact fun z => nomatch z) with z | z
    · exact absurd hb z
    · exact absurd z hp
/-- two bases in one -/
theorem Gr.join (e : Ex B B2) (e2 : Ex B2 H) (g : Gr B H B' H') : ∃ B3, Gr B2 H B3 H' ∧ Ex B' B3 := by
  refine ⟨fun a => if B2 a = Option.none then B' a else B2 a, ⟨fun a o h => ?_, fun a o h => ?_, g.hh, fun a h => ?_⟩, fun a o h => ?_⟩
  · show (if B2 a = Option.none then B' a else B2 a) = some o
    rw [if_neg (by rw [h]; exact fun z => nomatch z)]
    exact h
  · by_cases q : B2 a = Option.none
    · have h : (if B2 a = Option.none then B' a else B2 a) = some o := h
      rw [if_pos q] at h
      exact g.bh a o h
    · have h : (if B2 a = Option.none then B' a else B2 a) = some o := h
      rw [if_neg q] at h
      exact g.hh a o (e2 a o h)
  · by_cases q : B2 a = Option.none
    · have h : (if B2 a = Option.none then B' a else B2 a) ≠ Option.none := h
      rw [if_pos q] at h
      rcases g.fp a h with z | z
      · exact absurd (e.free q) z
      · exact .inr z
    · exact .inl q
  · show (if B2 a = Option.none then B' a else B2 a) = some o
    by_cases q : B2 a = Option.none
    · rw [if_pos q]
      exact h
    · rw [if_neg q]
      cases z : B2 a with
      | none => exact absurd z q
      | some u =>
        have h1 := g.hh a u (e2 a u z)
        have h2 := g.bh a o h
        rw [h1] at h2
        exact h2
end
/-! ### a reading gives a datum -/
def EvD (K : PySem.W.Frag) (te : TE) (σ : Sg) (B : Hp) (d : PyData) : Prop := ∀ H, Ex B H → ∀ Q : VK, (∀ v B' H', Gr B H B' H' → Dp K B' v d → Q v H') → te σ H Q
def EvA (K : PySem.W.Frag) (ta : TA) (σ : Sg) (B : Hp) (ds : List PyData) : Prop := ∀ H, Ex B H → ∀ Q : List V → Hp → Prop, (∀ vs B' H', Gr B H B' H' → DpAll K B' vs ds → Q vs H') → ta σ H Q
def EvT (tt : TT) (σ : Sg) (B : Hp) (b : Bool) : Prop := ∀ H, Ex B H → ∀ Q : Bool → Hp → Prop, (∀ H', Gr B H B H' → Q b H') → tt σ H Q
def EvO (to : TO) (σ : Sg) (B : Hp) (o : Option Int) : Prop := ∀ H, Ex B H → ∀ Q : Option Int → Hp → Prop, (∀ H', Gr B H B H' → Q o H') → to σ H Q
/-- a list that is tracked -/
def Dl (K : PySem.W.Frag) (B : Hp) (v : V) (ds : List PyData) : Prop := ∃ p xs, v = .ref p ∧ B p = some (.lst xs) ∧ DpAll K B xs ds
theorem Dl.up {K : PySem.W.Frag} {B B' : Hp} {v : V} {ds : List PyData} (e : Ex B B') (h : Dl K B v ds) : Dl K B' v ds := by
  obtain ⟨p, xs, h1, h2, h3⟩ := h
  exact ⟨p, xs, h1, e p _ h2, dms e h3⟩
theorem Dl.d {K : PySem.W.Frag} {B : Hp} {v : V} {ds : List PyData} (h : Dl K B v ds) : Dp K B v (.list ds) := by
  obtain ⟨p, xs, rfl, h2, h3⟩ := h
  exact .lst (.inl (.inl h2)) h3
theorem Dl.new {K : PySem.W.Frag} {B H : Hp} {p : Addr} {xs : List V} {ds : List PyData} (e : Ex B H) (hp : H p = none) (h : DpAll K B xs ds) : Dl K (upd B p (.lst xs)) (.ref p) ds := ⟨p, xs, rfl, upd_same, dms (Ex.new (e.free hp)) h⟩
def EvF (K : PySem.W.Frag) (te : TE) (σ : Sg) (B : Hp) (ds : List PyData) : Prop := ∀ H, Ex B H → ∀ Q : VK, (∀ v B' H', Gr B H B' H' → Dl K B' v ds → Q v H') → te σ H Q
section
variable {K : PySem.W.Frag} {σ : Sg} {B B2 : Hp} {ta tb te tc : TE} {t u : TT} {d e : PyData} {ds es : List PyData} {tl : TA}
theorem EvF.toD (h : EvF K te σ B ds) : EvD K te σ B (.list ds) := fun H x Q q => h H x Q fun v B' H' g hd => q v B' H' g hd.d
theorem EvF.up (x : Ex B B2) (h : EvF K te σ B ds) : EvF K te σ B2 ds := fun H e2 Q q => h H (x.trans e2) Q fun v B' H' g hd => by
  obtain ⟨B3, g3, e3⟩ := g.join x e2
  exact q v B3 H' g3 (hd.up e3)
theorem EvF.is {ds' : List PyData} (h : EvF K te σ B ds) (q : ds = ds') : EvF K te σ B ds' := q ▸ h
theorem ef_var {i : Nat} {v : V} (h : σ[i]? = some (some v)) (hd : Dl K B v ds) : EvF K (tVar i) σ B ds := fun H x Q q => ⟨v, h, q v B H (Gr.refl x) hd⟩
theorem EvD.up (x : Ex B B2) (h : EvD K te σ B d) : EvD K te σ B2 d := fun H e2 Q q => h H (x.trans e2) Q fun v B' H' g hd => by
  obtain ⟨B3, g3, e3⟩ := g.join x e2
  exact q v B3 H' g3 (dm e3 hd)
theorem EvA.up (x : Ex B B2) (h : EvA K tl σ B ds) : EvA K tl σ B2 ds := fun H e2 Q q => h H (x.trans e2) Q fun v B' H' g hd => by
  obtain ⟨B3, g3, e3⟩ := g.join x e2
  exact q v B3 H' g3 (dms e3 hd)
theorem EvT.up {b : Bool} (x : Ex B B2) (h : EvT t σ B b) : EvT t σ B2 b := fun H e2 Q q => h H (x.trans e2) Q fun H' g => q H' ((Gr.refl e2).trans ⟨Ex.refl B2, e2.trans g.hh, g.hh, fun _ h => .inl h⟩)
theorem EvO.up {to : TO} {b : Option Int} (x : Ex B B2) (h : EvO to σ B b) : EvO to σ B2 b := fun H e2 Q q => h H (x.trans e2) Q fun H' g => q H' ⟨Ex.refl B2, e2.trans g.hh, g.hh, fun _ h => .inl h⟩
theorem EvD.is {d' : PyData} (h : EvD K te σ B d) (q : d = d') : EvD K te σ B d' := q ▸ h
theorem EvT.is {b b' : Bool} (h : EvT t σ B b) (q : b = b') : EvT t σ B b' := q ▸ h
/-- two in a row -/
theorem ev2 (ha : EvD K ta σ B d) (hb : EvD K tb σ B e) {H : Hp} (x : Ex B H) {R : V → V → Hp → Prop} (h : ∀ v w B' H', Gr B H B' H' → Dp K B' v d → Dp K B' w e → R v w H') : ta σ H fun v H1 => tb σ H1 fun w H2 => R v w H2 :=
  ha H x _ fun v B1 H1 g1 d1 => (hb.up g1.bb) H1 g1.bh _ fun w B3 H3 g3 d3 => h v w B3 H3 (g1.trans g3) (dm g3.bb d1) d3
theorem ev_var {i : Nat} {v : V} (h : σ[i]? = some (some v)) (hd : Dp K B v d) : EvD K (tVar i) σ B d := fun H x Q q => ⟨v, h, q v B H (Gr.refl x) hd⟩
theorem ev_int {i : Int} : EvD K (tC (.int i)) σ B (.int i) := fun H x Q q => q _ B H (Gr.refl x) (.int i)
theorem ev_bl {b : Bool} : EvD K (tC (.bl b)) σ B (.bool b) := fun H x Q q => q _ B H (Gr.refl x) (.bl b)
theorem ev_non : EvD K (tC .non) σ B .none := fun H x Q q => q _ B H (Gr.refl x) .non
theorem ev_str {s : Str} : EvD K (tC (.str s)) σ B (.str s) := fun H x Q q => q _ B H (Gr.refl x) (.str s)
theorem ea_nil : EvA K tNil σ B [] := fun H x Q q => q [] B H (Gr.refl x) .nil
theorem ea_cons (h : EvD K ta σ B d) (hr : EvA K tl σ B ds) : EvA K (tCons ta tl) σ B (d :: ds) := fun H x Q q =>
  h H x _ fun v B1 H1 g1 d1 => (hr.up g1.bb) H1 g1.bh _ fun vs B2 H2 g2 d2 => q (v :: vs) B2 H2 (g1.trans g2) (.cons (dm g2.bb d1) d2)
theorem ea1 (h : EvD K ta σ B d) : EvA K (tCons ta tNil) σ B [d] := ea_cons h ea_nil
theorem ea2 (h : EvD K ta σ B d) (h2 : EvD K tb σ B e) : EvA K (tCons ta (tCons tb tNil)) σ B [d, e] := ea_cons h (ea1 h2)
theorem ea3 {f : PyData} (h : EvD K ta σ B d) (h2 : EvD K tb σ B e) (h3 : EvD K tc σ B f) : EvA K (tCons ta (tCons tb (tCons tc tNil))) σ B [d, e, f] := ea_cons h (ea2 h2 h3)
theorem small {n : Nat} (h : n ≤ 100000) : n ≤ sizeLine := Nat.le_trans h (by decide)
theorem smallt {n : Nat} (h : n < 100000) : n < sizeLine := Nat.lt_of_lt_of_le h (by decide)
theorem ev_tup (h : EvA K tl σ B ds) (hl : ds.length ≤ 100000) : EvD K (tTup tl) σ B (.tuple ds) := fun H x Q q => h H x _ fun vs B1 H1 g1 d1 =>
  ⟨small (by rw [da_len d1]; exact hl), fun p hp => q _ _ _ (g1.trans (Gr.new g1.bh hp)) (.tup (.inl (.inl upd_same)) (dms (Ex.new (g1.bh.free hp)) d1))⟩
theorem ef_lst (h : EvA K tl σ B ds) (hl : ds.length ≤ 100000) : EvF K (tLst tl) σ B ds := fun H x Q q => h H x _ fun vs B1 H1 g1 d1 =>
  ⟨small (by rw [da_len d1]; exact hl), fun p hp => q _ _ _ (g1.trans (Gr.new g1.bh hp)) (Dl.new g1.bh hp d1)⟩
/-- ints -/
theorem ev_I0 {g : Int → Int → Int} {i j : Int} (ha : EvD K ta σ B (.int i)) (hb : EvD K tb σ B (.int j)) : EvD K (tOp (rI0 fun i j => .int (g i j)) ta tb) σ B (.int (g i j)) := fun H x Q q =>
  ev2 ha hb x fun v w B' H' g1 d1 d2 => ⟨i, j, Dpi d1, Dpi d2, q _ B' H' g1 (.int _)⟩
theorem ev_I0b {g : Int → Int → Bool} {i j : Int} (ha : EvD K ta σ B (.int i)) (hb : EvD K tb σ B (.int j)) : EvD K (tOp (rI0 fun i j => .bl (g i j)) ta tb) σ B (.bool (g i j)) := fun H x Q q =>
  ev2 ha hb x fun v w B' H' g1 d1 d2 => ⟨i, j, Dpi d1, Dpi d2, q _ B' H' g1 (.bl _)⟩
theorem ev_I {C : Int → Int → Prop} {g : Int → Int → Int} {i j : Int} (ha : EvD K ta σ B (.int i)) (hb : EvD K tb σ B (.int j)) (hc : C i j) : EvD K (tOp (rI C fun i j => .int (g i j)) ta tb) σ B (.int (g i j)) := fun H x Q q =>
  ev2 ha hb x fun v w B' H' g1 d1 d2 => ⟨i, j, Dpi d1, Dpi d2, hc, q _ B' H' g1 (.int _)⟩
/-- items -/
theorem ev_ixL {i : Nat} (ha : EvD K ta σ B (.list ds)) (hb : EvD K tb σ B (.int i)) (hi : ds[i]? = some d) : EvD K (tOp (rIxL K) ta tb) σ B d := fun H x Q q =>
  ev2 ha hb x fun v w B' H' g1 d1 d2 => by
    obtain ⟨a, xs, rfl, hs, hd⟩ := Dpl d1
    obtain ⟨y, hy, hyd⟩ := da_get hd hi
    exact ⟨a, xs, i, y, rfl, Dpi d2, g1.bh.sl hs, atI_nat hy, q _ B' H' g1 hyd⟩
theorem ev_ixT {i : Nat} (ha : EvD K ta σ B (.tuple ds)) (hb : EvD K tb σ B (.int i)) (hi : ds[i]? = some d) : EvD K (tOp (rIxT K) ta tb) σ B d := fun H x Q q =>
  ev2 ha hb x fun v w B' H' g1 d1 d2 => by
    obtain ⟨a, xs, rfl, hs, hd⟩ := Dpt d1
    obtain ⟨y, hy, hyd⟩ := da_get hd hi
    exact ⟨a, xs, i, y, rfl, Dpi d2, g1.bh.st hs, atI_nat hy, q _ B' H' g1 hyd⟩
/-- flat == and != -/
def flatD : PyData → Option V
  | .none => some .non
  | .bool b => some (.bl b)
  | .int i => some (.int i)
  | .str s => some (.str s)
  | _ => none
theorem flatD_ok {H : Hp} {v w : V} (h : Dp K H v d) (f : flatD d = some w) : v = w := by
  cases h <;> first | (cases f; rfl) | exact nomatch f
theorem ev_eq {v w : V} {b : Bool} (ha : EvD K ta σ B d) (hb : EvD K tb σ B e) (f1 : flatD d = some v) (f2 : flatD e = some w) (hs : scal v w = true) (hq : decide (v = w) = b) : EvD K (tOp rEq ta tb) σ B (.bool b) := fun H x Q q =>
  ev2 ha hb x fun v' w' B' H' g1 d1 d2 => by
    rw [flatD_ok d1 f1, flatD_ok d2 f2]
    exact ⟨hs, q _ B' H' g1 (by rw [hq]; exact .bl _)⟩
theorem ev_ne {v w : V} {b : Bool} (ha : EvD K ta σ B d) (hb : EvD K tb σ B e) (f1 : flatD d = some v) (f2 : flatD e = some w) (hs : scal v w = true) (hq : (!decide (v = w)) = b) : EvD K (tOp rNe ta tb) σ B (.bool b) := fun H x Q q =>
  ev2 ha hb x fun v' w' B' H' g1 d1 d2 => by
    rw [flatD_ok d1 f1, flatD_ok d2 f2]
    exact ⟨hs, q _ B' H' g1 (by rw [hq]; exact .bl _)⟩
theorem dec_i {i j : Int} : decide (V.int i = V.int j) = decide (i = j) := by
  by_cases h : i = j
  · rw [h, decide_eq_true rfl, decide_eq_true rfl]
  · rw [decide_eq_false h, decide_eq_false (fun q => h (V.int.inj q))]
theorem ev_eqI {i j : Int} (ha : EvD K ta σ B (.int i)) (hb : EvD K tb σ B (.int j)) : EvD K (tOp rEq ta tb) σ B (.bool (decide (i = j))) := ev_eq ha hb rfl rfl rfl dec_i
theorem ev_neI {i j : Int} (ha : EvD K ta σ B (.int i)) (hb : EvD K tb σ B (.int j)) : EvD K (tOp rNe ta tb) σ B (.bool (!decide (i = j))) := ev_ne ha hb rfl rfl rfl (by rw [dec_i])
/-- == and != at any depth, in a list -/
theorem ev_eqD (ha : EvD K ta σ B d) (hb : EvD K tb σ B e) (s1 : SeqAt.shaped d = true) (s2 : SeqAt.shaped e = true) : EvD K (tOp (rEqD K) ta tb) σ B (.bool (PyData.eqv d e)) := fun H x Q q =>
  ev2 ha hb x fun v w B' H' g1 d1 d2 => ⟨d, e, dm g1.bh d1, dm g1.bh d2, s1, s2, q _ B' H' g1 (.bl _)⟩
theorem ev_neD (ha : EvD K ta σ B d) (hb : EvD K tb σ B e) (s1 : SeqAt.shaped d = true) (s2 : SeqAt.shaped e = true) : EvD K (tOp (rNeD K) ta tb) σ B (.bool (!PyData.eqv d e)) := fun H x Q q =>
  ev2 ha hb x fun v w B' H' g1 d1 d2 => ⟨d, e, dm g1.bh d1, dm g1.bh d2, s1, s2, q _ B' H' g1 (.bl _)⟩
theorem ev_inD (ha : EvD K ta σ B d) (hb : EvD K tb σ B (.list ds)) (s1 : SeqAt.shaped d = true) (s2 : SeqAt.shaped (.list ds) = true) : EvD K (tOp (rInD K) ta tb) σ B (.bool (ds.any fun z => PyData.eqv z d)) := fun H x Q q =>
  ev2 ha hb x fun v w B' H' g1 d1 d2 => ⟨d, ds, dm g1.bh d1, dm g1.bh d2, s1, s2, q _ B' H' g1 (.bl _)⟩
/-- k in ints -/
theorem inV_ints (k : Int) : ∀ ns : List Int, inV (.int k) (ns.map V.int) = decide (k ∈ ns)
  | [] => rfl
  | n :: ns => by
    have ih := inV_ints k ns
    unfold inV at ih ⊢
    rw [List.map_cons, List.any_cons, ih]
    have e : eqV (V.int n) (V.int k) = decide (n = k) := by
      show (n == k) = decide (n = k)
      rw [Bool.beq_eq_decide_eq]
    rw [e]
    by_cases h : n = k
    · subst h
      simp
    · rw [decide_eq_false h, Bool.false_or]
      by_cases h2 : k ∈ ns
      · rw [decide_eq_true h2, decide_eq_true (List.mem_cons_of_mem _ h2)]
      · rw [decide_eq_false h2, decide_eq_false (fun q => (List.mem_cons.mp q).elim (fun z => h z.symm) h2)]
theorem flat_ints : ∀ ns : List Int, (ns.map V.int).all flatV = true
  | [] => rfl
  | n :: ns => by
    rw [List.map_cons, List.all_cons, flat_ints ns]
    rfl
theorem ev_in {k : Int} {ns : List Int} (ha : EvD K ta σ B (.int k)) (hb : EvD K tb σ B (.list (ns.map .int))) : EvD K (tOp (rIn K false) ta tb) σ B (.bool (decide (k ∈ ns))) := fun H x Q q =>
  ev2 ha hb x fun v w B' H' g1 d1 d2 => by
    obtain ⟨a, xs, rfl, hs, hd⟩ := Dpl d2
    rw [Dpi d1]
    have e := da_intsV hd
    subst e
    exact ⟨a, _, rfl, .inl (g1.bh.sl hs), rfl, flat_ints ns, q _ B' H' g1 (by
      show Dp K B' (V.bl (if false = true then !inV (.int k) (ns.map V.int) else inV (.int k) (ns.map V.int))) _
      rw [if_neg Bool.false_ne_true, inV_ints]
      exact .bl _)⟩
/-- is None -/
def isNoneD : PyData → Bool
  | .none => true
  | _ => false
theorem ev_isN (ha : EvD K ta σ B d) {b : Bool} (hb : isNoneD d = b) : EvD K (tOp (fun x y H Q => y = .non ∧ Q (.bl (decide (x = .non))) H) ta (tC .non)) σ B (.bool b) := fun H x Q q =>
  ha H x _ fun v B' H' g1 d1 => ⟨rfl, q _ B' H' g1 (by
    have e : decide (v = .non) = b := by
      rw [← hb]
      cases d1 <;> rfl
    rw [e]
    exact .bl _)⟩
theorem ev_notN (ha : EvD K ta σ B d) {b : Bool} (hb : (!isNoneD d) = b) : EvD K (tOp (fun x y H Q => y = .non ∧ Q (.bl (!decide (x = .non))) H) ta (tC .non)) σ B (.bool b) := fun H x Q q =>
  ha H x _ fun v B' H' g1 d1 => ⟨rfl, q _ B' H' g1 (by
    have e : (!decide (v = .non)) = b := by
      rw [← hb]
      cases d1 <;> rfl
    rw [e]
    exact .bl _)⟩
/-- tests -/
theorem et_test {b : Bool} (h : EvD K te σ B (.bool b)) : EvT (tTest te) σ B b := fun H x Q q => h H x _ fun v B' H' g1 d1 => ⟨b, Dpb d1, q H' (g1.keep x)⟩
theorem et_B {b : Bool} (h : EvD K te σ B (.bool b)) : EvT (tB te) σ B b := fun H x Q q => h H x _ fun v B' H' g1 d1 => ⟨b, Dpb d1, q H' (g1.keep x)⟩
theorem Gr.ext {H H' : Hp} (x : Ex B H) (h : Ex H H') : Gr B H B H' := ⟨Ex.refl B, x.trans h, h, fun _ q => .inl q⟩
theorem et_not {b : Bool} (h : EvT t σ B b) : EvT (tNot t) σ B (!b) := fun H x Q q => h H x _ fun H' g1 => q H' g1
theorem et_and {a b : Bool} (h1 : EvT t σ B a) (h2 : a = true → EvT u σ B b) : EvT (tAnd t u) σ B (a && b) := fun H x Q q => h1 H x _ fun H1 g1 => by
  cases a with
  | true =>
    show u σ H1 Q
    exact h2 rfl H1 (x.trans g1.hh) Q fun H2 g2 => q H2 (Gr.ext x (g1.hh.trans g2.hh))
  | false =>
    show Q false H1
    exact q H1 g1
theorem et_or {a b : Bool} (h1 : EvT t σ B a) (h2 : a = false → EvT u σ B b) : EvT (tOr t u) σ B (a || b) := fun H x Q q => h1 H x _ fun H1 g1 => by
  cases a with
  | true =>
    show Q true H1
    exact q H1 g1
  | false =>
    show u σ H1 Q
    exact h2 rfl H1 (x.trans g1.hh) Q fun H2 g2 => q H2 (Gr.ext x (g1.hh.trans g2.hh))
theorem ev_orV {a b : Bool} (h1 : EvD K ta σ B (.bool a)) (h2 : a = false → EvD K tb σ B (.bool b)) : EvD K (tOrV ta tb) σ B (.bool (a || b)) := fun H x Q q => h1 H x _ fun v B1 H1 g1 d1 => ⟨a, Dpb d1, by
  cases a with
  | true =>
    show Q (.bl true) H1
    exact q _ B1 H1 g1 (.bl _)
  | false =>
    show tb σ H1 Q
    exact (h2 rfl).up g1.bb H1 g1.bh Q fun v2 B2 H2 g2 d2 => q v2 B2 H2 (g1.trans g2) d2⟩
theorem ev_andV {a b : Bool} (h1 : EvD K ta σ B (.bool a)) (h2 : a = true → EvD K tb σ B (.bool b)) : EvD K (tAndV ta tb) σ B (.bool (a && b)) := fun H x Q q => h1 H x _ fun v B1 H1 g1 d1 => ⟨a, Dpb d1, by
  cases a with
  | false =>
    show Q (.bl false) H1
    exact q _ B1 H1 g1 (.bl _)
  | true =>
    show tb σ H1 Q
    exact (h2 rfl).up g1.bb H1 g1.bh Q fun v2 B2 H2 g2 d2 => q v2 B2 H2 (g1.trans g2) d2⟩
/-- len, list, tuple, min -/
theorem ev_lenL (ha : EvD K ta σ B (.list ds)) : EvD K (tCB (fun xs H Q => ∃ p ys, xs = [.ref p] ∧ (SqL K H p ys ∨ SqT K H p ys) ∧ Q (.int ys.length) H) (tCons ta tNil)) σ B (.int (ds.length : Nat)) := fun H x Q q =>
  ha H x _ fun v B1 H1 g1 d1 => by
    obtain ⟨a, xs, rfl, hs, hd⟩ := Dpl d1
    exact ⟨a, xs, rfl, .inl (g1.bh.sl hs), q _ B1 H1 g1 (by rw [da_len hd]; exact .int _)⟩
theorem ev_lenT (ha : EvD K ta σ B (.tuple ds)) : EvD K (tCB (fun xs H Q => ∃ p ys, xs = [.ref p] ∧ (SqL K H p ys ∨ SqT K H p ys) ∧ Q (.int ys.length) H) (tCons ta tNil)) σ B (.int (ds.length : Nat)) := fun H x Q q =>
  ha H x _ fun v B1 H1 g1 d1 => by
    obtain ⟨a, xs, rfl, hs, hd⟩ := Dpt d1
    exact ⟨a, xs, rfl, .inr (g1.bh.st hs), q _ B1 H1 g1 (by rw [da_len hd]; exact .int _)⟩
theorem ef_listL (ha : EvD K ta σ B (.list ds)) : EvF K (tCB (fun xs H Q => ∃ p ys, xs = [.ref p] ∧ (SqL K H p ys ∨ SqT K H p ys) ∧ ∀ l, H l = none → Q (.ref l) (upd H l (.lst ys))) (tCons ta tNil)) σ B ds := fun H x Q q =>
  ha H x _ fun v B1 H1 g1 d1 => by
    obtain ⟨a, xs, rfl, hs, hd⟩ := Dpl d1
    exact ⟨a, xs, rfl, .inl (g1.bh.sl hs), fun l hl => q _ _ _ (g1.trans (Gr.new g1.bh hl)) (Dl.new g1.bh hl hd)⟩
theorem ef_listT (ha : EvD K ta σ B (.tuple ds)) : EvF K (tCB (fun xs H Q => ∃ p ys, xs = [.ref p] ∧ (SqL K H p ys ∨ SqT K H p ys) ∧ ∀ l, H l = none → Q (.ref l) (upd H l (.lst ys))) (tCons ta tNil)) σ B ds := fun H x Q q =>
  ha H x _ fun v B1 H1 g1 d1 => by
    obtain ⟨a, xs, rfl, hs, hd⟩ := Dpt d1
    exact ⟨a, xs, rfl, .inr (g1.bh.st hs), fun l hl => q _ _ _ (g1.trans (Gr.new g1.bh hl)) (Dl.new g1.bh hl hd)⟩
theorem ev_tupL (ha : EvD K ta σ B (.list ds)) : EvD K (tCB (fun xs H Q => ∃ p ys, xs = [.ref p] ∧ ((SqL K H p ys ∧ ∀ l, H l = none → Q (.ref l) (upd H l (.tup ys))) ∨ (SqT K H p ys ∧ Q (.ref p) H))) (tCons ta tNil)) σ B (.tuple ds) := fun H x Q q =>
  ha H x _ fun v B1 H1 g1 d1 => by
    obtain ⟨a, xs, rfl, hs, hd⟩ := Dpl d1
    exact ⟨a, xs, rfl, .inl ⟨g1.bh.sl hs, fun l hl => q _ _ _ (g1.trans (Gr.new g1.bh hl)) (.tup (.inl (.inl upd_same)) (dms (Ex.new (g1.bh.free hl)) hd))⟩⟩
theorem ev_min2 {i j : Int} (ha : EvD K ta σ B (.int i)) (hb : EvD K tb σ B (.int j)) : EvD K (tCB (fun xs H Q => ∃ i j, xs = [.int i, .int j] ∧ Q (.int (if j < i then j else i)) H) (tCons ta (tCons tb tNil))) σ B (.int (min i j)) := fun H x Q q =>
  ev2 ha hb x fun v w B' H' g1 d1 d2 => ⟨i, j, by rw [Dpi d1, Dpi d2], q _ B' H' g1 (by
    have e : (if j < i then j else i) = min i j := by
      by_cases h : j < i
      · rw [if_pos h]; omega
      · rw [if_neg h]; omega
    rw [e]
    exact .int _)⟩
theorem ev_max2 {i j : Int} (ha : EvD K ta σ B (.int i)) (hb : EvD K tb σ B (.int j)) : EvD K (tCB (fun xs H Q => ∃ i j, xs = [.int i, .int j] ∧ Q (.int (if j > i then j else i)) H) (tCons ta (tCons tb tNil))) σ B (.int (max i j)) := fun H x Q q =>
  ev2 ha hb x fun v w B' H' g1 d1 d2 => ⟨i, j, by rw [Dpi d1, Dpi d2], q _ B' H' g1 (by
    have e : (if j > i then j else i) = max i j := by
      by_cases h : j > i
      · rw [if_pos h]; omega
      · rw [if_neg h]; omega
    rw [e]
    exact .int _)⟩
theorem ev_allL {bs : List Bool} (ha : EvD K ta σ B (.list (bs.map .bool))) : EvD K (tCB (rAll K) (tCons ta tNil)) σ B (.bool (bs.all id)) := fun H x Q q =>
  ha H x _ fun v B1 H1 g1 d1 => by
    obtain ⟨a, xs, rfl, hs, hd⟩ := Dpl d1
    have e := da_boolsV hd
    subst e
    exact ⟨a, bs, rfl, g1.bh.sl hs, q _ B1 H1 g1 (.bl _)⟩
theorem ev_minL {ns : List Int} {m : Int} (ha : EvD K ta σ B (.list (ns.map .int))) (h0 : 0 < ns.length) (hm : ∀ k, k ∈ ns → (∀ y, y ∈ ns → k ≤ y) → k = m) : EvD K (tCB (rMin K) (tCons ta tNil)) σ B (.int m) := fun H x Q q =>
  ha H x _ fun v B1 H1 g1 d1 => by
    obtain ⟨a, xs, rfl, hs, hd⟩ := Dpl d1
    have e := da_intsV hd
    subst e
    exact ⟨a, ns, rfl, g1.bh.sl hs, h0, fun k hk hl => q _ B1 H1 g1 (by rw [hm k hk hl]; exact .int _)⟩
theorem ev_sorted {ns : List Int} {ms : List Int} (ha : EvD K ta σ B (.list (ns.map .int))) (h0 : ns.length < 64) (hm : ∀ ks : List Int, ks.Perm ns → ks.Pairwise (· ≤ ·) → ks = ms) : EvD K (tCB (rSorted K) (tCons ta tNil)) σ B (.list (ms.map .int)) := fun H x Q q =>
  ha H x _ fun v B1 H1 g1 d1 => by
    obtain ⟨a, xs, rfl, hs, hd⟩ := Dpl d1
    have e := da_intsV hd
    subst e
    refine ⟨a, ns, rfl, g1.bh.sl hs, h0, fun ks p h1 h2 hp => ?_⟩
    have e := hm ks h1 h2
    subst e
    exact q _ _ _ (g1.trans (Gr.new g1.bh hp)) (.lst (.inl (.inl upd_same)) (da_ints _))
/-- slices -/
theorem eo_none : EvO tNoPart σ B none := fun H x Q q => q H (Gr.refl x)
theorem eo_some {i : Int} (h : EvD K te σ B (.int i)) : EvO (tPart te) σ B (some i) := fun H x Q q => h H x _ fun v B1 H1 g1 d1 => ⟨i, Dpi d1, q H1 (g1.keep x)⟩
def cutD (ds : List PyData) (lo hi : Option Int) : List PyData := (ds.drop (HT.sIx ds.length 0 lo)).take (HT.sIx ds.length ds.length hi - HT.sIx ds.length 0 lo)
theorem ef_sl {tl th : TO} {lo hi : Option Int} (h : EvD K te σ B (.list ds)) (h1 : EvO tl σ B lo) (h2 : EvO th σ B hi) : EvF K (tSl (rSlL K) te tl th) σ B (cutD ds lo hi) := fun H x Q q =>
  h H x _ fun v B1 H1 g1 d1 => (h1.up g1.bb) H1 g1.bh _ fun H2 g2 => (h2.up g1.bb) H2 g2.bh _ fun H3 g3 => by
    obtain ⟨a, xs, rfl, hs, hd⟩ := Dpl d1
    refine ⟨a, xs, rfl, g3.bh.sl hs, fun p hp => q _ _ _ (((g1.trans g2).trans g3).trans (Gr.new g3.bh hp)) (Dl.new g3.bh hp ?_)⟩
    unfold cutD cutV
    rw [← da_len hd]
    exact da_take (da_drop hd)
theorem cutD_to (ds : List PyData) (n : Nat) : cutD ds none (some (n : Int)) = ds.take n := by
  unfold cutD
  rw [HT.sIx_none, HT.sIx_nat]
  simp only [List.drop_zero, Nat.sub_zero]
  rw [List.take_eq_take_iff]
  omega
theorem cutD_from (ds : List PyData) (n : Nat) : cutD ds (some (n : Int)) none = ds.drop n := by
  unfold cutD
  rw [HT.sIx_none, HT.sIx_nat]
  by_cases h : n ≤ ds.length
  · rw [Nat.min_eq_left h]
    exact List.take_of_length_le (by rw [List.length_drop]; omega)
  · rw [Nat.min_eq_right (by omega), List.drop_of_length_le (Nat.le_refl _), List.drop_of_length_le (by omega)]
    exact List.take_nil
/-- a + b of lists -/
theorem ef_cat (ha : EvF K ta σ B ds) (hb : EvF K tb σ B es) (hl : ds.length + es.length ≤ 100000) : EvF K (tOp rCat ta tb) σ B (ds ++ es) := fun H x Q q =>
  ha H x _ fun v B1 H1 g1 d1 => (hb.up g1.bb) H1 g1.bh _ fun w B2 H2 g2 d2 => by
    obtain ⟨a, xs, rfl, hs, hd⟩ := d1.up g2.bb
    obtain ⟨c, ys, rfl, hs2, hd2⟩ := d2
    exact ⟨a, c, xs, ys, rfl, rfl, g2.bh _ _ hs, g2.bh _ _ hs2, small (by rw [da_len hd, da_len hd2]; exact hl), fun l hl => q _ _ _ ((g1.trans g2).trans (Gr.new g2.bh hl)) (Dl.new g2.bh hl (da_app hd hd2))⟩
/-- list(range(a, b)) -/
theorem rgV_map (n : Nat) : rgV 0 (n : Int) = (List.range n).map fun (i : Nat) => V.int (i : Int) := by
  unfold rgV
  rw [show ((n : Int) - 0).toNat = n by omega]
  refine List.map_congr_left fun i _ => ?_
  rw [Int.zero_add]
/-- the promise of a def that leaves what stood -/
def spD (K : PySem.W.Frag) (R : List PyData → PyData → Prop) : Sp := fun vs H Q _ => ∃ B ds r, Ex B H ∧ DpAll K B vs ds ∧ R ds r ∧ ∀ v B' H', Gr B H B' H' → Dp K B' v r → Q v H'
theorem ev_call {R : List PyData → PyData → Prop} {E : XK} {r : PyData} (h : EvA K tl σ B ds) (hr : R ds r) : EvD K (tCall (spD K R) [] E tl) σ B r := fun H x Q q =>
  h H x _ fun vs B1 H1 g1 d1 => by
    show spD K R (vs ++ []) H1 Q E
    rw [List.append_nil]
    exact ⟨B1, ds, r, g1.bh, d1, hr, fun v B2 H2 g2 d2 => q v B2 H2 (g1.trans g2) d2⟩
/-! ### comprehensions -/
theorem lc_turn {L : Addr} {H0 H : Hp} {σ2 : Sg} {acc : List V} {α : Type} {as : List α} {i : Nat} {a : α} {f : α → Bool} {g : α → PyData} {xB : Hp} {t : TT} {te : TE}
    (x : Ex xB H) (hL : xB L = none) (h0 : H0 L = none) (e0 : Ex H0 H) (hacc : H L = some (.lst acc)) (hd : DpAll K xB acc (((as.take i).filter f).map g)) (hx : as[i]? = some a) (hz : acc.length < 100000)
    (ht : EvT t σ2 xB (f a)) (he : f a = true → EvD K te σ2 xB (g a)) {N : Hp → Prop}
    (hN : ∀ B' H' acc', Gr xB H B' H' ∨ (∃ y H4, Gr xB H B' H4 ∧ H' = upd H4 L (.lst (acc ++ [y]))) → Ex xB B' → Ex B' H' → B' L = none → Ex H0 H' → H' L = some (.lst acc') → DpAll K B' acc' (((as.take (i + 1)).filter f).map g) → (∀ p, B' p ≠ none → xB p ≠ none ∨ H p = none) → N H') :
    t σ2 H fun b H3 => if b = true then te σ2 H3 fun y H4 => ∃ acc, H4 L = some (.lst acc) ∧ acc.length < sizeLine ∧ N (upd H4 L (.lst (acc ++ [y]))) else N H3 := by
  have tk : as.take (i + 1) = as.take i ++ [a] := by
    rw [List.take_add_one, hx] <;> rfl
  refine ht H x _ fun H3 g3 => ?_
  cases hf : f a with
  | true =>
    show te σ2 H3 fun y H4 => ∃ acc, H4 L = some (.lst acc) ∧ acc.length < sizeLine ∧ N (upd H4 L (.lst (acc ++ [y])))
    refine he hf H3 g3.bh _ fun y B4 H4 g4 d4 => ?_
    have g34 : Gr xB H B4 H4 := g3.trans g4
    have n4 : B4 L = none := g34.off hL (by rw [hacc]; exact fun z => nomatch z)
    refine ⟨acc, g4.hh _ _ (g3.hh _ _ hacc), smallt hz, hN B4 _ (acc ++ [y]) (.inr ⟨y, H4, g34, rfl⟩) g34.bb (g34.bh.mut n4) n4 ((e0.trans g34.hh).mut h0) upd_same ?_ g34.fp⟩
    rw [tk, List.filter_append, List.map_append, List.filter_cons, if_pos hf]
    exact da_snoc (dms g34.bb hd) d4
  | false =>
    show N H3
    refine hN xB H3 acc (.inl g3) (Ex.refl _) g3.bh hL (e0.trans g3.hh) (g3.hh _ _ hacc) ?_ fun p q => .inl q
    rw [tk, List.filter_append, List.map_append, List.filter_cons, if_neg (by rw [hf]; decide)]
    simp only [List.filter_nil, List.map_nil, List.append_nil]
    exact hd
/-- the word of a comprehension: what stands at turn i -/
def Lw {α : Type} (K : PySem.W.Frag) (B1 H1 : Hp) (L : Addr) (as : List α) (f : α → Bool) (g : α → PyData) (i : Nat) (H : Hp) : Prop :=
  ∃ Bi acc, Ex B1 Bi ∧ Ex Bi H ∧ Bi L = none ∧ Ex H1 H ∧ H L = some (.lst acc) ∧ DpAll K Bi acc (((as.take i).filter f).map g) ∧ (∀ p, Bi p ≠ none → B1 p ≠ none ∨ H1 p = none)
theorem Lw.turn {α : Type} {as : List α} {f : α → Bool} {g : α → PyData} {B1 H1 H : Hp} {L : Addr} {i : Nat} {a : α} {σ2 : Sg} {t : TT} {te : TE} (w : Lw K B1 H1 L as f g i H) (h0 : H1 L = none) (hx : as[i]? = some a) (hz : as.length ≤ 40000)
    (ht : ∀ B', Ex B1 B' → EvT t σ2 B' (f a)) (he : f a = true → ∀ B', Ex B1 B' → EvD K te σ2 B' (g a)) :
    t σ2 H fun b H3 => if b = true then te σ2 H3 fun y H4 => ∃ acc, H4 L = some (.lst acc) ∧ acc.length < sizeLine ∧ Lw K B1 H1 L as f g (i + 1) (upd H4 L (.lst (acc ++ [y]))) else Lw K B1 H1 L as f g (i + 1) H3 := by
  obtain ⟨Bi, acc, e1, e2, n1, e3, hl, hd, fp⟩ := w
  refine lc_turn e2 n1 h0 e3 hl hd hx ?_ (ht Bi e1) (fun q => he q Bi e1) fun B' H' acc' _ x1 x2 x3 x4 x5 x6 x7 => ⟨B', acc', e1.trans x1, x2, x3, x4, x5, x6, fun p q => ?_⟩
  · rw [da_len hd, List.length_map]
    have q1 := List.length_filter_le f (as.take i)
    rw [List.length_take] at q1
    omega
  · rcases x7 p q with z | z
    · exact fp p z
    · exact .inr (e3.free z)
theorem Lw.zero {α : Type} {as : List α} {f : α → Bool} {g : α → PyData} {B1 H1 : Hp} {L : Addr} (e : Ex B1 H1) (h0 : H1 L = none) : Lw K B1 H1 L as f g 0 (upd H1 L (.lst [])) :=
  ⟨B1, [], Ex.refl _, e.trans (Ex.new h0), e.free h0, Ex.new h0, upd_same, .nil, fun p q => .inl q⟩
theorem Lw.done {α : Type} {as : List α} {f : α → Bool} {g : α → PyData} {B0 H0 B1 H1 H : Hp} {L : Addr} {i : Nat} (w : Lw K B1 H1 L as f g i H) (hi : as.length ≤ i) (h0 : H1 L = none) (g0 : Gr B0 H0 B1 H1) {Q : VK}
    (q : ∀ v B' H', Gr B0 H0 B' H' → Dl K B' v ((as.filter f).map g) → Q v H') : Q (.ref L) H := by
  obtain ⟨Bi, acc, e1, e2, n1, e3, hl, hd, fp⟩ := w
  rw [List.take_of_length_le hi] at hd
  have gi : Gr B1 H1 Bi H := ⟨e1, e2, e3, fp⟩
  exact q _ _ _ (g0.trans (gi.own h0 n1 hl)) ⟨L, acc, rfl, upd_same, dms (Ex.new n1) hd⟩
/-- over a list -/
theorem ef_lcL {α : Type} (as : List α) (dat : α → PyData) (f : α → Bool) (g : α → PyData) {tl : TE} {j : Nat} {vs : List Nat} (h : EvD K tl σ B (.list (as.map dat))) (hz : as.length ≤ 40000) (hw : ∀ x, wipe ((wipe σ vs).set j (some x)) vs = wipe σ vs)
    (ht : ∀ a, a ∈ as → ∀ x B', Ex B B' → Dp K B' x (dat a) → EvT t ((wipe σ vs).set j (some x)) B' (f a))
    (he : ∀ a, a ∈ as → f a = true → ∀ x B', Ex B B' → Dp K B' x (dat a) → EvD K te ((wipe σ vs).set j (some x)) B' (g a)) : EvF K (tLc (iList K tl) (gName j) t te vs) σ B ((as.filter f).map g) := fun H x Q q =>
  h H x _ fun v B1 H1 g1 d1 => by
    obtain ⟨a, xs, rfl, hs, hd⟩ := Dpl d1
    refine ⟨a, rfl, ⟨xs, g1.bh.sl hs⟩, fun L hL => lc_list (xs := xs) (Lw K B1 H1 L as f g) (Lw.zero g1.bh hL) (fun i H' _ w => ?_) (fun i y H' hi w => ?_) fun H' w => ?_⟩
    · obtain ⟨Bi, acc, e1, e2, _⟩ := w
      exact (e1.trans e2).sl hs
    · obtain ⟨d, hd1, hd2⟩ := da_getV hd hi
      rw [List.getElem?_map] at hd1
      cases ha : as[i]? with
      | none =>
        rw [ha] at hd1
        cases hd1
      | some z =>
        rw [ha] at hd1
        cases hd1
        have hm : z ∈ as := List.mem_of_getElem? ha
        exact ⟨hw y, w.turn hL ha hz (fun B' e => ht z hm y B' (g1.bb.trans e) (dm e hd2)) (fun hf B' e => he z hm hf y B' (g1.bb.trans e) (dm e hd2))⟩
    · have hl := da_len hd
      rw [List.length_map] at hl
      exact w.done (by omega) hL g1 q
/-- over a tuple -/
theorem ef_lcT {α : Type} (as : List α) (dat : α → PyData) (f : α → Bool) (g : α → PyData) {tl : TE} {j : Nat} {vs : List Nat} (h : EvD K tl σ B (.tuple (as.map dat))) (hz : as.length ≤ 40000) (hw : ∀ x, wipe ((wipe σ vs).set j (some x)) vs = wipe σ vs)
    (ht : ∀ a, a ∈ as → ∀ x B', Ex B B' → Dp K B' x (dat a) → EvT t ((wipe σ vs).set j (some x)) B' (f a))
    (he : ∀ a, a ∈ as → f a = true → ∀ x B', Ex B B' → Dp K B' x (dat a) → EvD K te ((wipe σ vs).set j (some x)) B' (g a)) : EvF K (tLc (iTup K tl) (gName j) t te vs) σ B ((as.filter f).map g) := fun H x Q q =>
  h H x _ fun v B1 H1 g1 d1 => by
    obtain ⟨a, xs, rfl, hs, hd⟩ := Dpt d1
    refine ⟨a, rfl, ⟨xs, g1.bh.st hs⟩, fun L hL => lc_tup (xs := xs) (Lw K B1 H1 L as f g) (Lw.zero g1.bh hL) (fun i H' _ w => ?_) (fun i y H' hi w => ?_) fun H' w => ?_⟩
    · obtain ⟨Bi, acc, e1, e2, _⟩ := w
      exact (e1.trans e2).st hs
    · obtain ⟨d, hd1, hd2⟩ := da_getV hd hi
      rw [List.getElem?_map] at hd1
      cases ha : as[i]? with
      | none =>
        rw [ha] at hd1
        cases hd1
      | some z =>
        rw [ha] at hd1
        cases hd1
        have hm : z ∈ as := List.mem_of_getElem? ha
        exact ⟨hw y, w.turn hL ha hz (fun B' e => ht z hm y B' (g1.bb.trans e) (dm e hd2)) (fun hf B' e => he z hm hf y B' (g1.bb.trans e) (dm e hd2))⟩
    · have hl := da_len hd
      rw [List.length_map] at hl
      exact w.done (by omega) hL g1 q
/-- over range(n) -/
theorem ef_lcR (n : Nat) (f : Nat → Bool) (g : Nat → PyData) {ta : TA} {j : Nat} {vs : List Nat} (h : EvA K ta σ B [.int n]) (hz : n ≤ 40000) (hw : ∀ x, wipe ((wipe σ vs).set j (some x)) vs = wipe σ vs)
    (ht : ∀ i : Nat, i < n → ∀ B', Ex B B' → EvT t ((wipe σ vs).set j (some (.int (i : Int)))) B' (f i))
    (he : ∀ i : Nat, i < n → f i = true → ∀ B', Ex B B' → EvD K te ((wipe σ vs).set j (some (.int (i : Int)))) B' (g i)) : EvF K (tLc (iRng1 ta) (gName j) t te vs) σ B (((List.range n).filter f).map g) := fun H x Q q =>
  h H x _ fun us B1 H1 g1 d1 => by
    obtain ⟨v, rfl, hv⟩ := da1 d1
    rw [Dpi hv]
    refine ⟨n, rfl, by omega, by omega, fun L hL => ?_⟩
    refine lc_range (lo := 0) (n := (n : Int).toNat) (Lw K B1 H1 L (List.range n) f g) (Lw.zero g1.bh hL) (fun i H' hi w => ?_) fun H' w => ?_
    · have hi' : i < n := by omega
      have e0 : (0 : Int) + (i : Int) = (i : Int) := Int.zero_add _
      rw [e0]
      have ha : (List.range n)[i]? = some i := List.getElem?_range hi'
      exact ⟨hw _, w.turn hL ha (by rw [List.length_range]; exact hz) (fun B' e => ht i hi' B' (g1.bb.trans e)) (fun hf B' e => he i hi' hf B' (g1.bb.trans e))⟩
    · exact w.done (by rw [List.length_range]; omega) hL g1 q
/-- over zip(xs, ys): two names -/
theorem ef_lcZ {α : Type} (as : List α) (da db : α → PyData) (f : α → Bool) (g : α → PyData) {ta : TA} {j k : Nat} {vs : List Nat} (h : EvA K ta σ B [.list (as.map da), .list (as.map db)]) (hz : as.length ≤ 40000)
    (hw : ∀ x y, wipe (((wipe σ vs).set j (some x)).set k (some y)) vs = wipe σ vs)
    (ht : ∀ a, a ∈ as → ∀ x y B', Ex B B' → Dp K B' x (da a) → Dp K B' y (db a) → EvT t (((wipe σ vs).set j (some x)).set k (some y)) B' (f a))
    (he : ∀ a, a ∈ as → f a = true → ∀ x y B', Ex B B' → Dp K B' x (da a) → Dp K B' y (db a) → EvD K te (((wipe σ vs).set j (some x)).set k (some y)) B' (g a)) :
    EvF K (tLc (iZip K ta) (gTup K 2 (gCons (gName j) (gCons (gName k) gNil))) t te vs) σ B ((as.filter f).map g) := fun H x Q q =>
  h H x _ fun us B1 H1 g1 d1 => by
    obtain ⟨v, w, rfl, hv, hw'⟩ := da2 d1
    obtain ⟨a, xs, rfl, hs, hd⟩ := Dpl hv
    obtain ⟨c, ys, rfl, hs2, hd2⟩ := Dpl hw'
    have hl := da_len hd
    have hl2 := da_len hd2
    rw [List.length_map] at hl hl2
    refine ⟨a, c, xs, ys, rfl, g1.bh.sl hs, g1.bh.sl hs2, fun L hL => ⟨fun i m H' => m = xs.length - i ∧ i ≤ xs.length ∧ Lw K B1 H1 L as f g i H', ⟨xs.length, rfl, Nat.zero_le _, Lw.zero g1.bh hL⟩, ?_⟩⟩
    rintro i m H' ⟨rfl, hi, w⟩
    obtain ⟨Bi, acc, e1, e2, r⟩ := id w
    have sx : SqL K H' a xs := (e1.trans e2).sl hs
    have sy : SqL K H' c ys := (e1.trans e2).sl hs2
    by_cases hlt : i < xs.length
    · have ha : as[i]? = some (as[i]'(by omega)) := List.getElem?_eq_getElem (by omega)
      have hm := List.mem_of_getElem? ha
      generalize (as[i]'(by omega)) = z at ha hm
      obtain ⟨p, hp1, hp2⟩ := da_get hd (i := i) (d := da z) (by rw [List.getElem?_map, ha]; rfl)
      obtain ⟨r2, hr1, hr2⟩ := da_get hd2 (i := i) (d := db z) (by rw [List.getElem?_map, ha]; rfl)
      refine .inr ⟨⟨xs, ys, p, r2, sx, sy, hp1, hr1⟩, Lw K B1 H1 L as f g (i + 1), fun H2 w2 => ⟨xs.length - (i + 1), by omega, rfl, hlt, w2⟩, fun u H2 y => ?_⟩
      obtain ⟨T, x', y', rfl, hT, rfl, f1, f2⟩ := y
      have ex : x' = p := Option.some.inj ((f1 xs sx).symm.trans hp1)
      have ey : y' = r2 := Option.some.inj ((f2 ys sy).symm.trans hr1)
      subst ex ey
      have hTL : L ≠ T := fun z => by
        rw [z] at r
        have := r.2.2.1
        rw [hT] at this
        cases this
      have w2 : Lw K B1 H1 L as f g i (upd H' T (.tup [x', y'])) := by
        obtain ⟨r1, r2, r3, r4, r5⟩ := r
        exact ⟨Bi, acc, e1, e2.trans (Ex.new hT), r1, r2.trans (Ex.new hT), by rw [upd_ne hTL]; exact r3, r4, r5⟩
      refine ⟨T, [x', y'], rfl, .inl (.inl upd_same), rfl, x', [y'], rfl, y', [], rfl, rfl, hw x' y', ?_⟩
      exact w2.turn hL ha hz (fun B' e => ht z hm x' y' B' (g1.bb.trans e) (dm e hp2) (dm e hr2)) (fun hf B' e => he z hm hf x' y' B' (g1.bb.trans e) (dm e hp2) (dm e hr2))
    · exact .inl ⟨⟨xs, ys, sx, sy, .inl (by omega)⟩, w.done (by omega) hL g1 q⟩
end
/-! ### statements: the slots σ, what is told B, all that stands H -/
section
variable {K : PySem.W.Frag} {σ : Sg} {B H : Hp} {te ta tb : TE} {t : TT} {d : PyData} {ds : List PyData} {D : Ends} {tu tw tz : TS}
theorem s_asg {i : Nat} (x : Ex B H) (h : EvD K te σ B d) (k : ∀ v B' H', Gr B H B' H' → Dp K B' v d → D.nx (σ.set i (some v)) H') : tAsg te (gName i) D σ H := h H x _ k
theorem s_asgF {i : Nat} (x : Ex B H) (h : EvF K te σ B ds) (k : ∀ v B' H', Gr B H B' H' → Dl K B' v ds → D.nx (σ.set i (some v)) H') : tAsg te (gName i) D σ H := h H x _ k
theorem s_ret (x : Ex B H) (h : EvD K te σ B d) (k : ∀ v B' H', Gr B H B' H' → Dp K B' v d → D.rt v H') : tRet te D σ H := h H x _ k
theorem s_drop (x : Ex B H) (h : EvD K te σ B d) (k : ∀ v B' H', Gr B H B' H' → Dp K B' v d → D.nx σ H') : tDrop te D σ H := h H x _ k
theorem s_if {b : Bool} (x : Ex B H) (h : EvT t σ B b) (h1 : b = true → ∀ H', Gr B H B H' → tu D σ H') (h2 : b = false → ∀ H', Gr B H B H' → tw D σ H') : tIfS t tu tw D σ H := h H x _ fun H' g => by
  cases b with
  | true =>
    show tu D σ H'
    exact h1 rfl H' g
  | false =>
    show tw D σ H'
    exact h2 rfl H' g
theorem q_asg {i : Nat} (x : Ex B H) (h : EvD K te σ B d) (k : ∀ v B' H', Gr B H B' H' → Dp K B' v d → tz D (σ.set i (some v)) H') : tSeq (tAsg te (gName i)) tz D σ H := s_asg (D := { D with nx := tz D }) x h k
theorem q_asgF {i : Nat} (x : Ex B H) (h : EvF K te σ B ds) (k : ∀ v B' H', Gr B H B' H' → Dl K B' v ds → tz D (σ.set i (some v)) H') : tSeq (tAsg te (gName i)) tz D σ H := s_asgF (D := { D with nx := tz D }) x h k
theorem q_drop (x : Ex B H) (h : EvD K te σ B d) (k : ∀ v B' H', Gr B H B' H' → Dp K B' v d → tz D σ H') : tSeq (tDrop te) tz D σ H := s_drop (D := { D with nx := tz D }) x h k
theorem q_if {b : Bool} (x : Ex B H) (h : EvT t σ B b) (h1 : b = true → ∀ H', Gr B H B H' → tu { D with nx := tz D } σ H') (h2 : b = false → ∀ H', Gr B H B H' → tw { D with nx := tz D } σ H') : tSeq (tIfS t tu tw) tz D σ H := s_if (D := { D with nx := tz D }) x h h1 h2
end
end Fx
set_option Elab.async false
set_option linter.all false
set_option maxRecDepth 100000
set_option autoImplicit false
namespace Fx
open PySem PySem.Spec PyProof.Rows L2
/-! ### set(xs) of ints, sorted(set(xs)) -/
section
variable {P : Program} {w : World} {A : Around} {E : Value → Shared → Prop} {s : Shared}
set_option maxHeartbeats 3200000 in
theorem set_of_list {l : Addr} {items : Array Value} (ns : List Int) {Q : Value → Shared → Prop} (hh : A.handled = none) (hl : s.heap.IsList l items) (hit : IntsAre items.toList ns) (hb : ns.length + 1 < scanBound)
    (h : ∀ (g : Heap) (tk c : Nat), SetR w g s.heap.objs.size (fun j => decide (j ∈ ns)) c → c ≤ ns.length → (∀ b o, s.heap.get? b = some o → g.get? b = some o) → Q (.ref s.heap.objs.size) { s with heap := g, toks := tk }) :
    wpAny (model P w) A (call (.type "set") [.ref l]) Q E s := by
  have hisz : items.size = ns.length := (Array.length_toList (xs := items)).symm.trans (IntsAre.length hit)
  obtain ⟨c, tl, hmro⟩ := F.called_set.mro
  have z1 := F.called_set.made
  have z2 := F.called_set.sub
  refine wpAny_call (codeAny_of_tree (?_ : wpAny _ _ (callAny (.type "set") _) _ _ _))
  refine wpAny_pure ⟨Code.quiet_builtin _ (by decide +kernel), codeAny_builtin F.entry_type_call ?_⟩
  rw [Around.under_plain (weight_type_call_type "set" [.ref l] []) rfl]
  have z3 := F.called_set.notType
  have z4 := F.called_set.canCreate
  have z5 := F.typeCall_set_1 (.ref l)
  repeat (any_goals (first | assumption | wp_step))
  refine codeAny_mono (code_set_led1 (.ref l) (E := E) (Q₁ := fun obj u => obj = .ref s.heap.objs.size ∧ u = { s with heap := s.heap.push { cls := .type "set", dict := none, data := .set #[] 0 (.fresh 0 0 (!w.params.followText "set-order")) } }) ⟨rfl, rfl⟩) fun r u hr => ?_
  cases r with
  | error e => exact hr
  | ok fl =>
    cases fl with
    | ret obj =>
      obtain ⟨rfl, rfl⟩ := hr
      generalize hg : s.heap.push { cls := .type "set", dict := none, data := .set #[] 0 (.fresh 0 0 (!w.params.followText "set-order")) } = g0
      have hS : g0.get? s.heap.objs.size = some { cls := .type "set", dict := none, data := .set #[] 0 (.fresh 0 0 (!w.params.followText "set-order")) } := by
        rw [← hg]; exact Heap.get?_push_size _ rfl
      have hT : Shared.TypeIs { s with heap := g0 } (.ref s.heap.objs.size) "set" := ⟨_, hS, rfl⟩
      have gz : g0.objs.size = s.heap.objs.size + 1 := by rw [← hg]; exact Heap.size_push ..
      have gk : ∀ b o, s.heap.get? b = some o → g0.get? b = some o := fun b o e => by
        rw [← hg]; exact Heap.get?_push_of_some _ e
      have z6 := F.called_set.init.lookup
      have z7 := F.called_set.init.bind (.ref s.heap.objs.size)
      repeat (any_goals (first | assumption | wp_step))
      refine codeAny_mono (codeAny_call_builtin (R := wants (fun r u => r = .none ∧ ∃ g tk c, u = { s with heap := g, toks := tk } ∧ SetR w g s.heap.objs.size (fun j => decide (j ∈ ns)) c ∧ c ≤ ns.length ∧
          (∀ b o, s.heap.get? b = some o → g.get? b = some o)) E) F.called_set.init.plain F.entry_set_init (check_set_init_1 hT ?_)) fun r2 u2 hr2 => ?_
      · obtain ⟨⟨ocls, odict, odata, oslots⟩, hol, hcl, nl, hdl⟩ := hl
        simp only at hcl hdl
        subst hcl; subst hdl
        have hol' := gk _ _ hol
        have y1 := F.sub_list_set
        have y2 := F.sub_list_frozenset
        have y3 : (Value.type "list" == Value.type "dict") = false := by decide
        have hl1 : g0.IsList l items := ⟨_, hol', rfl, nl, rfl⟩
        unfold Builtin.«set.__init__» noKeywords Builtin.Frozenset.updateFrom
        generalize hPI : pyIter = PI
        wp_walk
        subst hPI
        refine wpAny_pyIter_list hl1 (wpAny_bind (wpAny_runValue ?_))
        have hlS : l < s.heap.objs.size := Heap.lt_size hol
        have hh3 : A.in1.in1.in1.handled = none := by simp [hh]
        have hneI : l ≠ g0.objs.size := by rw [gz]; exact Nat.ne_of_lt (Nat.lt_succ_of_lt hlS)
        have hSf : s.heap.objs.size ∉ [g0.objs.size, l] := by
          rw [gz]; simp only [List.mem_cons, List.mem_singleton, List.not_mem_nil, or_false, not_or]
          exact ⟨Nat.ne_of_lt (Nat.lt_succ_self _), Nat.ne_of_gt hlS⟩
        have hval : ∀ (i : Nat) (v : Value), items[i]? = some v → ∃ k t, ns[i]? = some k ∧ v = .int k t := fun i v hv => by
          have hi : i < ns.length := hisz ▸ (Array.getElem?_eq_some_iff.mp hv).1
          obtain ⟨t, e⟩ := PyProof.Rows.IntsAre.int_at hit i v ((Array.getElem?_toList (xs := items)).trans hv)
          refine ⟨ns[i], t, List.getElem?_eq_getElem hi, e.trans ?_⟩
          rw [List.getD_eq_getElem?_getD, List.getElem?_eq_getElem hi] <;> rfl
        refine set_update_ints ((Walks.list hh3 _ l hneI items).toS) s.heap.objs.size
          hSf ns hisz hb hval (items.size - 0) 0 _ (by omega) (Nat.zero_le _)
          ⟨⟨_, Heap.get?_push_size _ rfl, rfl, rfl⟩, (hl1.push _)⟩ ?a0 ?aR
        case a0 => exact ⟨0, Nat.le_refl 0, setR_new_at (Heap.get?_push_of_some _ hS)⟩
        case aR =>
          rintro ⟨h', g2, d', tk', os'⟩ c' hm hc' hS'
          obtain rfl : g2 = s.gens := hm.gens
          obtain rfl : d' = s.drawn := hm.drawn
          obtain rfl : os' = s.os := hm.os
          show wpAny _ _ _ _ _ _
          refine wpAny_pure (?_ : wpAny _ _ (ret Value.none) _ _ _)
          refine wpAny_pure ⟨rfl, h', tk', c', rfl, hS', hisz ▸ hc', fun b o e => ?_⟩
          have hb0 : b < s.heap.objs.size := Heap.lt_size e
          refine hm.heap b o ?_ (Heap.get?_push_of_some _ (gk _ _ e))
          rw [gz]
          simp only [List.mem_cons, List.mem_singleton, List.not_mem_nil, or_false, not_or]
          exact ⟨Nat.ne_of_lt hb0, Nat.ne_of_lt (Nat.lt_succ_of_lt hb0)⟩
      · cases r2 with
        | error e => exact hr2
        | ok fl2 =>
          cases fl2 with
          | ret r =>
            obtain ⟨rfl, h', tk, c', rfl, hS', hc', hk'⟩ := hr2
            repeat (any_goals (first | assumption | wp_step))
            exact h _ _ _ hS' hc' hk'
          | _ => exact hr2.elim
    | _ => exact hr.elim
end
end Fx
set_option Elab.async false
set_option linter.all false
set_option maxRecDepth 100000
set_option autoImplicit false
namespace Fx
open PySem PySem.Spec PyProof.Rows L2
/-! ### defs of the text -/
structure Df (K : PySem.W.Frag) (mg : Str → Option Value) (x : Str) (st : Stmt) (ps : List Str) (f : Addr) (fd : FuncData) : Prop where
  F : Fun K x x st f fd
  b : Binds K fd ps []
  m : mg x = some (.ref f)
def Gd (P : Program) (w : World) (K : PySem.W.Frag) (mg : Str → Option Value) (base : Heap) (x : Str) (ps : List Str) (k : Nat) (sp : Sp) : Prop :=
  ∃ f fd, FnOk P w K mg base CX0 k f fd ps sp ∧ Binds K fd ps [] ∧ mg x = some (.ref f) ∧ PySem.W.keepIn K (.ref f) = true
theorem gd_of {P : Program} {w : World} {K : PySem.W.Frag} {mg : Str → Option Value} {base : Heap} {x : Str} {st : Stmt} {ps N : List Str} {f : Addr} {fd : FuncData} {k : Nat} {sp : Sp} (D : Df K mg x st ps f fd) (S : FnScope N ps (defScope st)) (len : ∀ vs H Q E, sp vs H Q E → vs.length = ps.length)
    (hbody : ∀ (cdv : Value) (A : Around) (outer : List Env) (s : Shared) (H : Hp) (vs : List V) (Q : VK) (E : XK), Room k (A.deeper (envOfC x (defScope st) s.heap.objs.size f cdv)) → sp vs H Q E →
      ∃ t, PSs (cxOf CX0 P w K mg base N x (defScope st) f cdv A outer s H E).nox (defBody st) t ∧ t { nx := fun _ H' => Q .non H', rt := Q } (start N vs) H) : Gd P w K mg base x ps (k + 1) sp :=
  ⟨f, fd, D.F.ok S len hbody, D.b, D.m, D.F.kp⟩
theorem gd_ofD {P : Program} {w : World} {K : PySem.W.Frag} {mg : Str → Option Value} {base : Heap} {x : Str} {st : Stmt} {ps N : List Str} {f : Addr} {fd : FuncData} {k : Nat} {R : List PyData → PyData → Prop} (D : Df K mg x st ps f fd) (S : FnScope N ps (defScope st)) (len : ∀ ds r, R ds r → ds.length = ps.length)
    (hbody : ∀ (cdv : Value) (A : Around) (outer : List Env) (s : Shared) (H B : Hp) (vs : List V) (ds : List PyData) (r : PyData) (Q : VK) (E : XK), Room k (A.deeper (envOfC x (defScope st) s.heap.objs.size f cdv)) → Ex B H → DpAll K B vs ds → R ds r → (∀ v B' H', Gr B H B' H' → Dp K B' v r → Q v H') →
      ∃ t, PSs (cxOf CX0 P w K mg base N x (defScope st) f cdv A outer s H E).nox (defBody st) t ∧ t { nx := fun _ H' => Q .non H', rt := Q } (start N vs) H) : Gd P w K mg base x ps (k + 1) (spD K R) :=
  gd_of D S (fun vs H Q E ⟨B, ds, r, _, hd, hr, _⟩ => (da_len hd).trans (len ds r hr)) fun cdv A outer s H vs Q E hr ⟨B, ds, r, e, hd, hR, q⟩ => hbody cdv A outer s H B vs ds r Q E hr e hd hR q
section
variable {X : Cx} {x : Str} {ps : List Str} {k j : Nat} {sp : Sp} {p pos : Pos} {e : Expr} {es : List Expr} {t : TA}
theorem pe_fn (G : Gd X.prog X.w X.K X.mg X.base x ps k sp) (hr : Room j X.A) (ha : PA X (e :: es) t) (hk : k ≤ j := by decide) (hg : Gl X x := by rfl) (hdb : (x == ("__debug__" : Str)) = false := by decide)
    (he : starEach (e :: es) X.env = (false, eval e X.env) :: starEach es X.env := by rfl) (hpl : (backTo pos (starEach es X.env)).any (·.1) = false := by rfl) :
    PE X (.Call (.Name x p) (e :: es) [] pos) (tCall sp [] E0 t) := by
  obtain ⟨f, fd, F, b, m, kp⟩ := G
  exact pe_call F (hr.mono hk) hg m kp b .nil pass0 ha hdb he hpl
end
/-- the built-ins that the text names -/
structure Bt (mg : Str → Option Value) : Prop where
  rng : mg "range" = none
  len : mg "len" = none
  sorted : mg "sorted" = none
  list : mg "list" = none
  tuple : mg "tuple" = none
  min : mg "min" = none
  max : mg "max" = none
  isi : mg "isinstance" = none
  int : mg "int" = none
  enum : mg "enumerate" = none
  zip : mg "zip" = none
  set : mg "set" = none
  all : mg "all" = none
  abs : mg "abs" = none
/-! ### the units that == and in want -/
theorem u65 {k : Nat} {A : Around} (hr : Room k A) : A.units + 65 < cLine := by have := hr.un; omega
theorem u64 {k : Nat} {A : Around} (hr : Room k A) : A.units + 64 < cLine := hr.units
theorem u1 {k : Nat} {A : Around} (hr : Room k A) : A.units + 1 < cLine := hu_of hr
/-! ### data that == reads -/
theorem sh_ints : ∀ ns : List Int, PyData.canLayAll0 (ns.map PyData.int) = true ∧ PyData.depthAll (ns.map PyData.int) ≤ 1
  | [] => by simp [PyData.canLayAll0, PyData.depthAll]
  | n :: ns => by
    have ⟨h1, h2⟩ := sh_ints ns
    refine ⟨?_, ?_⟩
    · simp only [List.map_cons, PyData.canLayAll0, PyData.canLay0, h1, Bool.and_self]
    · simp only [List.map_cons, PyData.depthAll, PyData.depth]
      exact Nat.max_le.mpr ⟨by omega, h2⟩
theorem shaped_ints (ns : List Int) : SeqAt.shaped (.list (ns.map PyData.int)) = true := by
  have ⟨h1, h2⟩ := sh_ints ns
  have e : PyData.depth (.list (ns.map PyData.int)) = PyData.depthAll (ns.map PyData.int) + 1 := by
    simp only [PyData.depth] <;> omega
  have e2 : PyData.canLay0 (.list (ns.map PyData.int)) = true := by
    simp only [PyData.canLay0]
    exact h1
  show (PyData.canLay0 (.list (ns.map PyData.int)) && decide (PyData.depth (.list (ns.map PyData.int)) ≤ 64)) = true
  rw [e, e2, Bool.true_and, decide_eq_true_eq]
  omega
theorem eqv_int (a b : Int) : PyData.eqv (.int a) (.int b) = decide (a = b) := by
  simp only [PyData.eqv]
  by_cases h : a = b
  · simp [h]
  · simp [h]
theorem eqvA_ints : ∀ (ns ms : List Int), PyData.eqvAll (ns.map PyData.int) (ms.map PyData.int) = decide (ns = ms)
  | [], [] => by simp [PyData.eqvAll]
  | [], m :: ms => by simp [PyData.eqvAll]
  | n :: ns, [] => by simp [PyData.eqvAll]
  | n :: ns, m :: ms => by
    simp only [List.map_cons, PyData.eqvAll, eqv_int, eqvA_ints ns ms]
    by_cases h : n = m
    · by_cases h2 : ns = ms
      · simp [h, h2]
      · simp [h, h2]
    · simp [h]
theorem eqv_ints (ns ms : List Int) : PyData.eqv (.list (ns.map PyData.int)) (.list (ms.map PyData.int)) = decide (ns = ms) := by
  simp only [PyData.eqv]
  exact eqvA_ints ns ms
/-! ### x not in t, t a tuple of data -/
section
variable {X : Cx}
def rNotInU (K : PySem.W.Frag) : R2 := fun x y H Q => ∃ d ds, Dp K H x d ∧ Dp K H y (.tuple ds) ∧ SeqAt.shaped d = true ∧ SeqAt.shaped (.tuple ds) = true ∧ Q (.bl (!ds.any fun z => PyData.eqv z d)) H
theorem op_notInU (hu : X.A.units + 65 < cLine) : OpR X (compareOp .NotIn) (rNotInU X.K) := by
  rintro pins s σ H x y v u Q I rx ry ⟨d, ds, hd, he, sd, se, q⟩
  obtain ⟨as, r1⟩ := Dp.reads I d x v hd rx
  obtain ⟨bs, r2⟩ := Dp.reads I (.tuple ds) y u he ry
  refine SeqAt.notIn_tuple_reads r2 r1 (SeqAt.canLay_of_shaped se) (SeqAt.canLay_of_shaped sd) ?_ ⟨.bl _, H, I, rfl, q⟩
  exact room_in_shaped sd hu
end
section
variable {K : PySem.W.Frag} {σ : Sg} {B : Hp} {ta tb : TE} {d : PyData} {ds : List PyData}
theorem ev_notInU (ha : EvD K ta σ B d) (hb : EvD K tb σ B (.tuple ds)) (s1 : SeqAt.shaped d = true) (s2 : SeqAt.shaped (.tuple ds) = true) : EvD K (tOp (rNotInU K) ta tb) σ B (.bool (!ds.any fun z => PyData.eqv z d)) := fun H x Q q =>
  ev2 ha hb x fun v w B' H' g1 d1 d2 => ⟨d, ds, dm g1.bh d1, dm g1.bh d2, s1, s2, q _ B' H' g1 (.bl _)⟩
/-! ### isinstance -/
def tyD : PyData → String
  | .none => "NoneType"
  | .bool _ => "bool"
  | .int _ => "int"
  | .str _ => "str"
  | .list _ => "list"
  | .tuple _ => "tuple"
  | .dict _ => "dict"
theorem tyD_tup {H : Hp} {v : V} (h : Dp K H v (.tuple ds)) : TyX K H v (.type "tuple") := by
  obtain ⟨a, xs, rfl, hs, _⟩ := Dpt h
  rcases hs with (h | ⟨o, h⟩) | ⟨o, its, n, h1, h2, _⟩
  · exact .base (.tup h)
  · exact .fTuple h
  · exact .kTuple h1 h2
theorem tyD_int {H : Hp} {v : V} {i : Int} (h : Dp K H v (.int i)) : TyX K H v (.type "int") := by
  rw [Dpi h]
  exact .base (.int i)
theorem ev_isi {T : String} {t : String} {b : Bool} (ha : EvD K ta σ B d) (ht : ∀ H v, Dp K H v d → TyX K H v (.type t)) (hk : kitB t T = some b) : EvD K (tCB (rIsi K) (tCons ta (tCons (tC (.ty T)) tNil))) σ B (.bool b) := fun H x Q q =>
  ha H x _ fun v B1 H1 g1 d1 => ⟨v, .ty T, .type t, .type T, b, rfl, .ty T, ht H1 v (dm g1.bh d1), kit_ty hk, q _ B1 H1 g1 (.bl b)⟩
end
section
variable {X : Cx}
def rSetL1 (K : PySem.W.Frag) (w : World) : List V → Hp → VK → Prop := fun xs H Q => ∃ (l : Addr) (ns : List Int), xs = [.ref l] ∧ SqL K H l (ns.map V.int) ∧ ns.length < 64 ∧
  ∀ p c, H p = none → c ≤ ns.length → Q (.ref p) (upd H p (SetO w p (fun j => decide (j ∈ ns)) c))
theorem cr_setL1 (hc : X.calm = true) : CallR X (.type "set") (rSetL1 X.K X.w) := by
  rintro pins s σ H xs us Q I r ⟨l, ns, rfl, hq, h1, q⟩
  obtain ⟨its, rv, pl, hz⟩ := I.list hq
  rw [Vals.ref1 r]
  refine set_of_list ns (I.ok.hd hc) pl.isList (by simpa using rv.ints) (by unfold scanBound; omega) fun g tk c R hcn hk => ?_
  exact ⟨.ref _, upd H s.heap.objs.size (SetO X.w s.heap.objs.size (fun j => decide (j ∈ ns)) c), I.laid hk (Nat.le_refl _) (setO_new R), rfl, q _ c (I.hok.fresh (Nat.le_refl _)) hcn⟩
end
theorem ev_sset {K : PySem.W.Frag} {w : World} {σ : Sg} {B : Hp} {ta : TE} {ns : List Int} (ha : EvD K ta σ B (.list (ns.map .int))) (hl : ns.length < 64) (hu : ns.Pairwise (· < ·)) :
    EvD K (tCB (rSortedSet w) (tCons (tCB (rSetL1 K w) (tCons ta tNil)) tNil)) σ B (.list (ns.map .int)) := fun H x Q q =>
  ha H x _ fun v B1 H1 g1 d1 => by
    obtain ⟨a, xs, rfl, hs, hd⟩ := Dpl d1
    have e := da_intsV hd
    subst e
    refine ⟨a, ns, rfl, g1.bh.sl hs, hl, fun p c hp hc => ⟨p, _, c, rfl, upd_same, by omega, fun ms p2 hms hmem _ hp2 => ?_⟩⟩
    have e : ms = ns := by
      have pe : ms.Perm ns := (List.perm_ext_iff_of_nodup (hms.imp fun {a b} q => by omega) (hu.imp fun {a b} q => by omega)).mpr fun k => by
        rw [hmem, decide_eq_true_eq]
      exact List.Perm.eq_of_pairwise (le := (· < ·)) (fun a b _ _ h1 h2 => by omega) hms hu pe
    subst e
    have g2 : Gr B H B1 (upd H1 p (SetO w p (fun j => decide (j ∈ ms)) c)) := g1.trans (Gr.tmp g1.bh hp)
    exact q _ _ _ (g2.trans (Gr.new g2.bh hp2)) (.lst (.inl (.inl upd_same)) (da_ints _))
/-! ### the values of a dict with tuple keys that is made on the way (locked from then on) -/
def Itw (d : Addr) (o : Obj) (kvs : List (List Key × V)) : It where
  go := fun i H => H d = some (.frz o (.dT kvs)) ∧ i < kvs.length
  yld := fun i H x H' => H' = H ∧ ∃ k, kvs[i]? = some (k, x)
  stop := fun i H => H d = some (.frz o (.dT kvs)) ∧ kvs.length ≤ i
section
variable {X : Cx} {pins : List (Addr × Obj)} {σ : L2.St} {H : Hp} {s : Shared} {d : Addr} {o : Obj}
theorem frzW {kvs : List (List Key × V)} (I : Inv X pins σ H s) (h : H d = some (.frz o (.dT kvs))) :
    (d == sysModules) = false ∧ s.heap.get? d = some o ∧ o.ExactDict ∧ ∃ (es : Array DictEntry) (ep : Nat), o.data = .dict es ep ∧ es.size = kvs.length ∧
      ∀ (i : Nat) (k : List Key) (v : V), kvs[i]? = some (k, v) → ∃ (en : DictEntry), es[i]? = some en ∧ RelV v en.val := by
  obtain ⟨hd, z, hs, ks, pr, o', es, ep, ho, hx, hdt, he, hn⟩ := I.hok d _ h
  cases hd.symm.trans ho
  refine ⟨hs, hd, hx, es, ep, hdt, (size_of_entries he).trans (Paired.length pr).symm, fun i k v e => ?_⟩
  obtain ⟨b, hb, e1, e2, e3⟩ := paired_get pr e
  have q := entry_at he i
  rw [hb] at q
  exact ⟨_, q, e3⟩
theorem turnW {P : Program} {w : World} {K : PySem.W.Frag} {tg : Expr} {es : Array DictEntry} {ep : Nat} {kvs : List (List Key × V)} (it : Addr) (hod : o.data = .dict es ep) : Turn P w K tg (Itw d o kvs) [it] it (fun i h => h.IsValIter it d i kvs.length ep) where
  mem := List.mem_singleton.mpr rfl
  obj := fun i h st b hb => by
    obtain rfl : b = it := List.mem_singleton.mp hb
    obtain ⟨oi, e, c, dd⟩ := st
    exact ⟨oi, e, fun v z => nomatch (dd.symm.trans z)⟩
  keep := fun i h h' st k => st.at fun oi e => k it (List.mem_singleton.mpr rfl) oi e
  item := by
    rintro X rfl rfl rfl hc i pins s σ H E I hf st ⟨hd, hi⟩
    obtain ⟨f0, f1, f2, f3, f4, f5⟩ := hf it (List.mem_singleton.mpr rfl)
    obtain ⟨hs, hgd, hx, es', ep', hdt, hsz, ent⟩ := frzW I hd
    obtain ⟨rfl, rfl⟩ := dict_ep hod hdt
    obtain ⟨⟨k, v⟩, hkv⟩ : ∃ p, kvs[i]? = some p := ⟨kvs[i], List.getElem?_eq_getElem hi⟩
    obtain ⟨en, hen, rv⟩ := ent i k v hkv
    have hlt : i < es'.size := hsz.symm ▸ hi
    have ev : es'[i].val = en.val := by
      rw [Array.getElem?_eq_getElem hlt] at hen
      rw [Option.some.inj hen]
    have st2 : s.heap.IsValIter it d i es'.size ep' := hsz.symm ▸ st
    refine wpAny_pyNext_values_item_raw st2 ⟨o, hgd, hx, hdt⟩ hlt fun h' st' sb => ?_
    have J : Inv X pins σ H { s with heap := h' } := I.turned (t' := s.toks) (fun b ob hb e => (sb.2 b hb).trans e) f0 f1 f3 f4 f5
    obtain ⟨oi, e, c, dd⟩ := id st'
    exact ⟨es'[i].val, rfl, go_of (s := { s with heap := h' }) e c dd (by decide) ⟨v, H, J, ev.symm ▸ rv, ⟨rfl, k, hkv⟩, hsz ▸ st', fun b hb => (hf b hb).1⟩⟩
  done := by
    rintro X rfl rfl rfl hc i pins s σ H E I hf st ⟨hd, hi⟩
    obtain ⟨f0, f1, f2, f3, f4, f5⟩ := hf it (List.mem_singleton.mpr rfl)
    obtain ⟨hs, hgd, hx, es', ep', hdt, hsz, ent⟩ := frzW I hd
    obtain ⟨rfl, rfl⟩ := dict_ep hod hdt
    have st2 : s.heap.IsValIter it d i es'.size ep' := hsz.symm ▸ st
    exact wpAny_pyNext_values_end_raw (I.ok.hd hc) st2 ⟨o, hgd, hx, hdt⟩ (hsz.symm ▸ hi) fun h' eb => ⟨rfl, I.turned (t' := s.toks) (fun b ob hb e => eb b ob hb e) f0 f1 f3 f4 f5⟩
  self := fun A i s Q E st h => wpAny_pyIter_valiter st h
end
def iValsW (td : TE) : TI := fun σ H R => td σ H fun x H1 => ∃ d kvs, x = .ref d ∧ H1 d = some (.dT kvs) ∧ ∀ o, R (Itw d o kvs) (upd H1 d (.frz o (.dT kvs)))
theorem pi_valuesW {X : Cx} {tg e : Expr} {td : TE} {apos cpos : Pos} (he : PE X e td) (hbase : attributeBase e "values" X.env (eval e X.env) = eval e X.env := by rfl) (hline : (apos.endLine == cpos.line) = true := by rfl) :
    PI X tg (.Call (.Attribute e "values" apos) [] [] cpos) (iValsW td) := by
  refine ⟨fun pins s σ H R I h => ?_⟩
  refine wpAny_Call_method (T := "dict") (id := "dict.values") hbase rfl hline F.plainAttrs_dict F.slot_dict_values F.type_dict_values (thn (he.run pins s σ H _ I h) fun u s1 ⟨x, H1, I1, rx, d, kvs, ex, hd, q⟩ => ?_)
  subst ex
  obtain rfl : u = Value.ref d := rx
  obtain ⟨o, I2⟩ := I1.lock hd trivial
  have q := q o
  obtain ⟨hs, hgd, hx, es, ep, hdt, hsz, ent⟩ := frzW I2 upd_same
  have raw : s1.heap.DictRaw d es ep := ⟨o, hgd, hx, hdt⟩
  refine ⟨raw.typeIs, (isD_at I1 (.inr ⟨kvs, .inl hd⟩)).2.1, ?_⟩
  have fin : wpAny (model X.prog X.w) X.A (pyIter (.ref s1.heap.objs.size)) (PIE X pins σ tg R) X.xe { s1 with heap := s1.heap.push { cls := .type "dict_values", data := .fields #[.ref d] } } := by
    refine wpAny_pyIter_values_raw (d := d) ⟨_, Heap.get?_push_size _ rfl, rfl, rfl⟩ (raw.at fun o' e' => Heap.get?_push_of_some _ e') ?_
    refine pi_one (tk := s1.toks) (I2.kept (t' := s1.toks) fun b ob z => Heap.get?_push_of_some _ z) _ (turnW _ hdt) ⟨_, Heap.get?_push_size _ rfl, rfl, ?_⟩ q
    rw [hsz] <;> rfl
  show wpAny _ _ (callWith cpos (.builtin "dict.values") [.ref d] [] []) _ X.xe s1
  exact method_meetsIn F.slot_dict_values F.entry_dict_values rfl (PySem.evalArgs_none ⟨rfl, raw.typeIs, F.args_dict_values_1 _, _, meets_dict_values_raw d hs, ⟨es, ep, raw⟩, fin⟩)
/-! ### the rules that tell K, by K -/
section
variable {X : Cx} (K : PySem.W.Frag) {a b e l : Expr} {es : List Expr} {ta tb te tl : TE} {p p2 pos : Pos}
theorem be_ixL (ha : PE X a ta) (hb : PE X b tb) (hK : X.K = K := by rfl) (hs : PlainIx b := by exact fun _ _ => rfl) : PE X (.Subscript a b pos) (tOp (rIxL K) ta tb) := by subst hK; exact pe_ix ix_list ha hb hs
theorem be_ixT (ha : PE X a ta) (hb : PE X b tb) (hK : X.K = K := by rfl) (hs : PlainIx b := by exact fun _ _ => rfl) : PE X (.Subscript a b pos) (tOp (rIxT K) ta tb) := by subst hK; exact pe_ix ix_tup ha hb hs
abbrev lenR : List V → Hp → VK → Prop := fun xs H Q => ∃ p ys, xs = [.ref p] ∧ (SqL K H p ys ∨ SqT K H p ys) ∧ Q (.int ys.length) H
abbrev listR : List V → Hp → VK → Prop := fun xs H Q => ∃ p ys, xs = [.ref p] ∧ (SqL K H p ys ∨ SqT K H p ys) ∧ ∀ l, H l = none → Q (.ref l) (upd H l (.lst ys))
abbrev tupR : List V → Hp → VK → Prop := fun xs H Q => ∃ p ys, xs = [.ref p] ∧ ((SqL K H p ys ∧ ∀ l, H l = none → Q (.ref l) (upd H l (.tup ys))) ∨ (SqT K H p ys ∧ Q (.ref p) H))
theorem be_len (hm : X.mg "len" = none) (ha : PE X e te) (hK : X.K = K := by rfl) (hg : Gl X "len" := by rfl) (hs : starEach [e] X.env = (false, eval e X.env) :: starEach [] X.env := by rfl) : PE X (.Call (.Name "len" p) [e] [] pos) (tCB (lenR K) (tCons te tNil)) := by
  subst hK; exact pe_callB call_len_seq hg hm PySem.boot_len (pa_cons ha pa_nil hs) (he := hs)
theorem be_list (hm : X.mg "list" = none) (ha : PE X e te) (hK : X.K = K := by rfl) (hg : Gl X "list" := by rfl) (hs : starEach [e] X.env = (false, eval e X.env) :: starEach [] X.env := by rfl) : PE X (.Call (.Name "list" p) [e] [] pos) (tCB (listR K) (tCons te tNil)) := by
  subst hK; exact pe_callTy call_list_of hg hm PyProof.Rows.boot_list (pa_cons ha pa_nil hs) (he := hs)
theorem be_tuple (hm : X.mg "tuple" = none) (ha : PE X e te) (hK : X.K = K := by rfl) (hg : Gl X "tuple" := by rfl) (hs : starEach [e] X.env = (false, eval e X.env) :: starEach [] X.env := by rfl) : PE X (.Call (.Name "tuple" p) [e] [] pos) (tCB (tupR K) (tCons te tNil)) := by
  subst hK; exact pe_callTy call_tuple_of hg hm PyProof.Rows.boot_tuple (pa_cons ha pa_nil hs) (he := hs)
theorem be_sorted (hm : X.mg "sorted" = none) (ha : PE X e te) (hK : X.K = K := by rfl) (hg : Gl X "sorted" := by rfl) (hs : starEach [e] X.env = (false, eval e X.env) :: starEach [] X.env := by rfl) : PE X (.Call (.Name "sorted" p) [e] [] pos) (tCB (rSorted K) (tCons te tNil)) := by
  subst hK; exact pe_callB cr_sorted hg hm PyProof.Rows.boot_sorted (pa_cons ha pa_nil hs) (he := hs)
theorem be_sset {w : World} (hm : X.mg "sorted" = none) (hm2 : X.mg "set" = none) (ha : PE X e te) (hK : X.K = K := by rfl) (hW : X.w = w := by rfl) (hc : X.calm = true := by rfl) (hg : Gl X "sorted" := by rfl) (hg2 : Gl X "set" := by rfl)
    (hs : starEach [e] X.env = (false, eval e X.env) :: starEach [] X.env := by rfl) (hs2 : starEach [.Call (.Name "set" p2) [e] [] pos] X.env = (false, eval (.Call (.Name "set" p2) [e] [] pos) X.env) :: starEach [] X.env := by rfl) {q : Pos} :
    PE X (.Call (.Name "sorted" p) [.Call (.Name "set" p2) [e] [] pos] [] q) (tCB (rSortedSet w) (tCons (tCB (rSetL1 K w) (tCons te tNil)) tNil)) := by
  subst hK; subst hW; exact pe_callB (cr_sortedSet hc) hg hm PyProof.Rows.boot_sorted (pa_cons (pe_callTy (cr_setL1 hc) hg2 hm2 PyProof.Rows.boot_set (pa_cons ha pa_nil hs) (he := hs)) pa_nil hs2) (he := hs2)
theorem be_all (hm : X.mg "all" = none) (ha : PE X e te) (hK : X.K = K := by rfl) (hc : X.calm = true := by rfl) (hg : Gl X "all" := by rfl) (hs : starEach [e] X.env = (false, eval e X.env) :: starEach [] X.env := by rfl) : PE X (.Call (.Name "all" p) [e] [] pos) (tCB (rAll K) (tCons te tNil)) := by
  subst hK; exact pe_callB (cr_all hc) hg hm PyProof.Rows.boot_all (pa_cons ha pa_nil hs) (he := hs)
theorem be_minL (hm : X.mg "min" = none) (ha : PE X e te) (hK : X.K = K := by rfl) (hc : X.calm = true := by rfl) (hg : Gl X "min" := by rfl) (hs : starEach [e] X.env = (false, eval e X.env) :: starEach [] X.env := by rfl) : PE X (.Call (.Name "min" p) [e] [] pos) (tCB (rMin K) (tCons te tNil)) := by
  subst hK; exact pe_callB (cr_min hc) hg hm PyProof.Rows.boot_min (pa_cons ha pa_nil hs) (he := hs)
abbrev min2R : List V → Hp → VK → Prop := fun xs H Q => ∃ i j, xs = [.int i, .int j] ∧ Q (.int (if j < i then j else i)) H
abbrev max2R : List V → Hp → VK → Prop := fun xs H Q => ∃ i j, xs = [.int i, .int j] ∧ Q (.int (if j > i then j else i)) H
theorem be_min2 (hm : X.mg "min" = none) (ha : PE X a ta) (hb : PE X b tb) (hc : X.calm = true := by rfl) (hg : Gl X "min" := by rfl) (hs : starEach [a, b] X.env = (false, eval a X.env) :: starEach [b] X.env := by rfl) (hs2 : starEach [b] X.env = (false, eval b X.env) :: starEach [] X.env := by rfl)
    (hpl : (backTo pos (starEach [b] X.env)).any (·.1) = false := by rfl) : PE X (.Call (.Name "min" p) [a, b] [] pos) (tCB min2R (tCons ta (tCons tb tNil))) :=
  pe_callB (call_min2 hc) hg hm PyProof.Rows.boot_min (pa_cons ha (pa_cons hb pa_nil hs2) hs) (he := hs) (hpl := hpl)
theorem be_max2 (hm : X.mg "max" = none) (ha : PE X a ta) (hb : PE X b tb) (hc : X.calm = true := by rfl) (hg : Gl X "max" := by rfl) (hs : starEach [a, b] X.env = (false, eval a X.env) :: starEach [b] X.env := by rfl) (hs2 : starEach [b] X.env = (false, eval b X.env) :: starEach [] X.env := by rfl)
    (hpl : (backTo pos (starEach [b] X.env)).any (·.1) = false := by rfl) : PE X (.Call (.Name "max" p) [a, b] [] pos) (tCB max2R (tCons ta (tCons tb tNil))) :=
  pe_callB (call_max2 hc) hg hm PyProof.Rows.boot_max (pa_cons ha (pa_cons hb pa_nil hs2) hs) (he := hs) (hpl := hpl)
theorem be_isi {T : Str} {n : String} (hm : X.mg "isinstance" = none) (hm2 : X.mg T = none) (hv : bootBuiltins T = some (.type n)) (ha : PE X e te) (hK : X.K = K := by rfl) (hg : Gl X "isinstance" := by rfl) (hg2 : Gl X T := by rfl)
    (hn : T ≠ "__name__" := by decide) (hdb : (T == ("__debug__" : Str)) = false := by decide)
    (hs : starEach [e, .Name T p2] X.env = (false, eval e X.env) :: starEach [.Name T p2] X.env := by rfl) (hs2 : starEach [.Name T p2] X.env = (false, eval (.Name T p2) X.env) :: starEach [] X.env := by rfl) (hpl : (backTo pos (starEach [.Name T p2] X.env)).any (·.1) = false := by rfl) :
    PE X (.Call (.Name "isinstance" p) [e, .Name T p2] [] pos) (tCB (rIsi K) (tCons te (tCons (tC (.ty n)) tNil))) := by
  subst hK; exact pe_callB call_isi hg hm PyProof.Rows.boot_isinstance (pa_cons ha (pa_cons (pe_bltn hg2 hm2 hv rfl hn hdb) pa_nil hs2) hs) (he := hs) (hpl := hpl)
theorem be_in (ha : PE X a ta) (hb : PE X b tb) (hK : X.K = K := by rfl) (hm : behindInMarks .In b = false := by rfl) : PE X (.Compare a [.In] [b] pos) (tOp (rIn K false) ta tb) := by subst hK; exact pe_cmpR op_in_seq ha hb hm
theorem be_inD (ha : PE X a ta) (hb : PE X b tb) (hu : X.A.units + 65 < cLine) (hK : X.K = K := by rfl) (hm : behindInMarks .In b = false := by rfl) : PE X (.Compare a [.In] [b] pos) (tOp (rInD K) ta tb) := by subst hK; exact pe_cmpR (op_inD hu) ha hb hm
theorem bt_in (ha : PE X a ta) (hb : PE X b tb) (hK : X.K = K := by rfl) (hm : behindInMarks .In b = false := by rfl) : PT X (.Compare a [.In] [b] pos) (tTest (tOp (rIn K false) ta tb)) := by subst hK; exact pt_cmpR op_in_seq ha hb hm
theorem be_lstI (hi : PE X l tl) (hK : X.K = K := by rfl) {tg : Expr} : PI X tg l (iList K tl) := by subst hK; exact pi_list hi
theorem be_tupI (hi : PE X l tl) (hK : X.K = K := by rfl) {tg : Expr} : PI X tg l (iTup K tl) := by subst hK; exact pi_tup hi
end
/-! ### raw steps -/
section
variable {K : PySem.W.Frag} {σ : Sg} {B H : Hp} {ta : TA} {te tl : TE} {tt : TT} {t u tb : TS} {g : TG} {D : Ends} {Q : VK} {vs : List Nat} {i : Nat} {ds es : List PyData}
theorem sq (h : t { D with nx := u D } σ H) : tSeq t u D σ H := h
theorem as_ (h : te σ H fun x H1 => D.nx (σ.set i (some x)) H1) : tAsg te (gName i) D σ H := h
theorem rt_ (h : te σ H D.rt) : tRet te D σ H := h
theorem nx_ (h : D.nx σ H) : tNext D σ H := h
def LcW (J : It) (g : TG) (tt : TT) (te : TE) (vs : List Nat) (σ : Sg) (H1 : Hp) (L : Addr) (Q : VK) : Prop := ∃ W : Nat → Nat → Hp → Prop, (∃ m, W 0 m (upd H1 L (.lst []))) ∧ ∀ i m H, W i m H →
  (J.stop i H ∧ Q (.ref L) H) ∨ (J.go i H ∧ ∃ N : Hp → Prop, (∀ H', N H' → ∃ m', m' < m ∧ W (i + 1) m' H') ∧ ∀ x H', J.yld i H x H' → g x (wipe σ vs) H' fun σ2 H2 => wipe σ2 vs = wipe σ vs ∧ tt σ2 H2 fun b H3 =>
    if b = true then te σ2 H3 fun y H4 => ∃ acc, H4 L = some (.lst acc) ∧ acc.length < sizeLine ∧ N (upd H4 L (.lst (acc ++ [y]))) else N H3)
theorem lcR_ {n : Nat} (h : EvA K ta σ B [.int (n : Int)]) (x : Ex B H) (hz : n ≤ 40000) (k : ∀ B1 H1 L, Gr B H B1 H1 → H1 L = none → LcW (Itr 0 n) g tt te vs σ H1 L Q) : tLc (iRng1 ta) g tt te vs σ H Q :=
  h H x _ fun us B1 H1 g1 d1 => by
    obtain ⟨v, rfl, hv⟩ := da1 d1
    exact ⟨n, by rw [Dpi hv], by omega, by omega, fun L hL => k B1 H1 L g1 hL⟩
theorem lcL_ (h : EvD K tl σ B (.list ds)) (x : Ex B H) (k : ∀ a xs B1 H1 L, Gr B H B1 H1 → SqL K B1 a xs → DpAll K B1 xs ds → H1 L = none → LcW (Itl K a) g tt te vs σ H1 L Q) : tLc (iList K tl) g tt te vs σ H Q :=
  h H x _ fun v B1 H1 g1 d1 => by
    obtain ⟨a, xs, rfl, hs, hd⟩ := Dpl d1
    exact ⟨a, rfl, ⟨xs, g1.bh.sl hs⟩, fun L hL => k a xs B1 H1 L g1 hs hd hL⟩
def ForW (J : It) (g : TG) (tb : TS) (D : Ends) (σ : Sg) (H1 : Hp) : Prop := ∃ W : Nat → Nat → Sg → Hp → Prop, (∃ m, W 0 m σ H1) ∧ ∀ i m σ H, W i m σ H →
  (J.stop i H ∧ D.nx σ H) ∨ (J.go i H ∧ ∃ N : Sg → Hp → Prop, (∀ σ' H', N σ' H' → ∃ m', m' < m ∧ W (i + 1) m' σ' H') ∧ ∀ x H', J.yld i H x H' → g x σ H' fun σ2 H2 => tb { D with nx := N, ct := N, bk := D.nx } σ2 H2)
theorem forT_ (h : EvD K tl σ B (.tuple ds)) (x : Ex B H) (k : ∀ a xs B1 H1, Gr B H B1 H1 → SqT K B1 a xs → DpAll K B1 xs ds → ForW (Itt K a) g tb D σ H1) : tFor (iTup K tl) g tb D σ H :=
  h H x _ fun v B1 H1 g1 d1 => by
    obtain ⟨a, xs, rfl, hs, hd⟩ := Dpt d1
    exact ⟨a, rfl, ⟨xs, g1.bh.st hs⟩, k a xs B1 H1 g1 hs hd⟩
theorem forL_ (h : EvD K tl σ B (.list ds)) (x : Ex B H) (k : ∀ a xs B1 H1, Gr B H B1 H1 → SqL K B1 a xs → DpAll K B1 xs ds → ForW (Itl K a) g tb D σ H1) : tFor (iList K tl) g tb D σ H :=
  h H x _ fun v B1 H1 g1 d1 => by
    obtain ⟨a, xs, rfl, hs, hd⟩ := Dpl d1
    exact ⟨a, rfl, ⟨xs, g1.bh.sl hs⟩, k a xs B1 H1 g1 hs hd⟩
theorem forR1_ {n : Nat} (h : EvA K ta σ B [.int (n : Int)]) (x : Ex B H) (hz : n ≤ 40000) (k : ∀ B1 H1, Gr B H B1 H1 → ForW (Itr 0 n) g tb D σ H1) : tFor (iRng1 ta) g tb D σ H :=
  h H x _ fun us B1 H1 g1 d1 => by
    obtain ⟨v, rfl, hv⟩ := da1 d1
    exact ⟨n, by rw [Dpi hv], by omega, by omega, k B1 H1 g1⟩
theorem forR2_ {m n : Nat} (h : EvA K ta σ B [.int (m : Int), .int (n : Int)]) (x : Ex B H) (hz : n ≤ 40000 ∧ m ≤ 40000) (k : ∀ B1 H1, Gr B H B1 H1 → ForW (Itr m (n - m)) g tb D σ H1) : tFor (iRng2 ta) g tb D σ H :=
  h H x _ fun us B1 H1 g1 d1 => by
    obtain ⟨v, v2, rfl, hv, hv2⟩ := da2 d1
    refine ⟨m, n, by rw [Dpi hv, Dpi hv2], ⟨by omega, by omega, by omega, by omega⟩, ?_⟩
    have := k B1 H1 g1
    rw [show n - m = ((n : Int) - (m : Int)).toNat by omega] at this
    exact this
theorem forE_ (h : EvA K ta σ B [.list ds]) (x : Ex B H) (k : ∀ a xs B1 H1, Gr B H B1 H1 → SqL K B1 a xs → DpAll K B1 xs ds → ForW (Ite K a) g tb D σ H1) : tFor (iEnum K ta) g tb D σ H :=
  h H x _ fun us B1 H1 g1 d1 => by
    obtain ⟨v, rfl, hv⟩ := da1 d1
    obtain ⟨a, xs, rfl, hs, hd⟩ := Dpl hv
    exact ⟨a, xs, rfl, g1.bh.sl hs, k a xs B1 H1 g1 hs hd⟩
theorem forZ_ (h : EvA K ta σ B [.list ds, .list es]) (x : Ex B H) (k : ∀ a b xs ys B1 H1, Gr B H B1 H1 → SqL K B1 a xs → DpAll K B1 xs ds → SqL K B1 b ys → DpAll K B1 ys es → ForW (Itz K a b) g tb D σ H1) : tFor (iZip K ta) g tb D σ H :=
  h H x _ fun us B1 H1 g1 d1 => by
    obtain ⟨v, v2, rfl, hv, hv2⟩ := da2 d1
    obtain ⟨a, xs, rfl, hs, hd⟩ := Dpl hv
    obtain ⟨b, ys, rfl, hs2, hd2⟩ := Dpl hv2
    exact ⟨a, b, xs, ys, rfl, g1.bh.sl hs, g1.bh.sl hs2, k a b xs ys B1 H1 g1 hs hd hs2 hd2⟩
/-- enumerate: the pair is unpacked at once -/
theorem for_enum {a : Addr} {xs : List V} (Pv : Nat → Sg → Hp → Prop) (h0 : Pv 0 σ H) (hl : ∀ i σ H, i ≤ xs.length → Pv i σ H → SqL K H a xs)
    (hs : ∀ (i : Nat) (x : V) (T : Addr) (σ : Sg) (H : Hp), xs[i]? = some x → Pv i σ H → H T = none → g (.ref T) σ (upd H T (.tup [.int (i : Nat), x])) fun σ2 H2 => tb { D with nx := Pv (i + 1), ct := Pv (i + 1), bk := D.nx } σ2 H2)
    (hd : ∀ σ H, Pv xs.length σ H → D.nx σ H) : ForW (Ite K a) g tb D σ H := by
  refine ⟨fun i m σ H => m = xs.length - i ∧ i ≤ xs.length ∧ Pv i σ H, ⟨xs.length, rfl, Nat.zero_le _, h0⟩, ?_⟩
  rintro i m σ H ⟨rfl, hi, p⟩
  have qx := hl i σ H hi p
  by_cases hlt : i < xs.length
  · have hx : xs[i]? = some xs[i] := List.getElem?_eq_getElem hlt
    refine .inr ⟨⟨xs, _, qx, hx⟩, Pv (i + 1), fun σ' H' p' => ⟨xs.length - (i + 1), by omega, rfl, hlt, p'⟩, fun v H' y => ?_⟩
    obtain ⟨T, x', rfl, hT, rfl, f1⟩ := y
    exact hs i x' T σ H (f1 xs qx) p hT
  · obtain rfl : i = xs.length := by omega
    exact .inl ⟨⟨xs, qx, Nat.le_refl _⟩, hd σ H p⟩
end
end Fx
set_option Elab.async false
set_option linter.all false
set_option maxRecDepth 100000
set_option autoImplicit false
namespace Fx
open PySem PySem.Spec PyProof.Rows L2
/-! ### the text -/
def topS (i : Nat) : Stmt := PySem.Challenge.pw_farhail_k46_whole_strengths_by_parters.main.body.getD i (.Pass ⟨0, 0, 0, 0⟩)
/-! ### data -/
def nD (l : List Nat) : PyData := .list (l.map fun (u : Nat) => PyData.int (u : Int))
def tieD (p : Nat × Nat) : PyData := .tuple [.int (p.1 : Int), .int (p.2 : Int)]
def tiesD (es : List (Nat × Nat)) : PyData := .tuple (es.map tieD)
def webD (W : Web) : PyData := .tuple [.int (W.n : Int), tiesD W.es]
def nearD (W : Web) : PyData := .list ((List.range W.n).map fun v => nD (W.nbr v))
def thD : Th → PyData
  | .pl v => .int (v : Int)
  | .ti a b => .tuple [.int (a : Int), .int (b : Int)]
def kdS : Kd → Str
  | .places => "places"
  | .ties => "ties"
  | .all => "all"
def kdD (k : Kd) : PyData := .str (kdS k)
theorem ints_map (l : List Nat) : (l.map fun (u : Nat) => PyData.int (u : Int)) = (l.map fun (u : Nat) => (u : Int)).map PyData.int := by
  rw [List.map_map]
  rfl
theorem ints_mapV (l : List Nat) : (l.map fun (u : Nat) => V.int (u : Int)) = (l.map fun (u : Nat) => (u : Int)).map V.int := by
  rw [List.map_map]
  rfl
section
variable {K : PySem.W.Frag} {σ : Sg} {B H : Hp} {ta tb te : TE} {d : PyData} {ds : List PyData} {D : Ends}
theorem da_nats (l : List Nat) : DpAll K H (l.map fun (u : Nat) => V.int (u : Int)) (l.map fun (u : Nat) => PyData.int (u : Int)) := by
  rw [ints_map, ints_mapV]
  exact da_ints _
theorem da_natsV {l : List Nat} {vs : List V} (h : DpAll K H vs (l.map fun (u : Nat) => PyData.int (u : Int))) : vs = l.map fun (u : Nat) => V.int (u : Int) := by
  rw [ints_map] at h
  rw [ints_mapV]
  exact da_intsV h
theorem ev_inN {k : Nat} {l : List Nat} (ha : EvD K ta σ B (.int (k : Int))) (hb : EvD K tb σ B (nD l)) : EvD K (tOp (rIn K false) ta tb) σ B (.bool (decide (k ∈ l))) := by
  refine (ev_in ha (hb.is (by unfold nD; rw [ints_map]))).is ?_
  refine congrArg PyData.bool (decide_eq_decide.mpr ⟨fun h => ?_, fun h => ?_⟩)
  · obtain ⟨u, hu, e⟩ := List.mem_map.mp h
    have : u = k := by omega
    rw [← this]
    exact hu
  · exact List.mem_map.mpr ⟨k, h, rfl⟩
/-- an exact evaluation -/
def Ax (te : TE) (σ : Sg) (H : Hp) (v : V) : Prop := ∀ Q : VK, Q v H → te σ H Q
theorem ax_var {i : Nat} {v : V} (h : σ[i]? = some (some v)) : Ax (tVar i) σ H v := fun Q q => ⟨v, h, q⟩
theorem ax_ixL {l : Addr} {xs : List V} {i : Nat} {v : V} (ha : Ax ta σ H (.ref l)) (hb : Ax tb σ H (.int (i : Int))) (hl : H l = some (.lst xs)) (hi : xs[i]? = some v) : Ax (tOp (rIxL K) ta tb) σ H v := fun Q q =>
  ha _ (hb _ ⟨l, xs, i, v, rfl, rfl, SqL.of hl, atI_nat hi, q⟩)
theorem s_app {l : Addr} {xs : List V} (x : Ex B H) (hl : H l = some (.lst xs)) (ha : Ax ta σ H (.ref l)) (h : EvD K te σ B d) (hz : xs.length < 100000) (k : ∀ v B' H', Gr B H B' H' → Dp K B' v d → D.nx σ (upd H' l (.lst (xs ++ [v])))) :
    tDrop (tBM K "list" rAppend ta (tCons te tNil)) D σ H := ha _ ⟨.inl ⟨rfl, xs, .inl (.inl hl)⟩, h H x _ fun v B' H' g hd => ⟨l, xs, v, rfl, rfl, g.hh _ _ hl, smallt hz, k v B' H' g hd⟩⟩
theorem q_app {tz : TS} {l : Addr} {xs : List V} (x : Ex B H) (hl : H l = some (.lst xs)) (ha : Ax ta σ H (.ref l)) (h : EvD K te σ B d) (hz : xs.length < 100000) (k : ∀ v B' H', Gr B H B' H' → Dp K B' v d → tz D σ (upd H' l (.lst (xs ++ [v])))) :
    tSeq (tDrop (tBM K "list" rAppend ta (tCons te tNil))) tz D σ H := s_app (D := { D with nx := tz D }) x hl ha h hz k
end
section
variable {K : PySem.W.Frag} {σ : Sg} {B H : Hp} {ta tb te tl : TE} {td : TA} {t : TT} {d : PyData} {ds : List PyData} {D : Ends} {tu : TS} {g : TG}
theorem ax_int {i : Int} : Ax (tC (.int i)) σ H (.int i) := fun Q q => q
theorem ax_ixLD {i : Nat} {v : V} (ha : Ax ta σ H v) (hv : Dp K B v (.list ds)) (x : Ex B H) (hb : Ax tb σ H (.int (i : Int))) (hi : ds[i]? = some d) : ∃ w, Dp K B w d ∧ Ax (tOp (rIxL K) ta tb) σ H w := by
  obtain ⟨a, xs, rfl, hs, hd⟩ := Dpl hv
  obtain ⟨y, hy, hyd⟩ := da_get hd hi
  exact ⟨y, hyd, fun Q q => ha _ (hb _ ⟨a, xs, i, y, rfl, rfl, x.sl hs, atI_nat hy, q⟩)⟩
theorem forLa_ {a : Addr} {xs : List V} (h : Ax tl σ H (.ref a)) (hs : SqL K H a xs) (k : ForW (Itl K a) g tu D σ H) : tFor (iList K tl) g tu D σ H := h _ ⟨a, rfl, ⟨xs, hs⟩, k⟩
theorem s_set {l : Addr} {xs : List V} {j : Nat} (x : Ex B H) (hl : H l = some (.lst xs)) (h : EvD K te σ B d) (ho : ∀ H', Ex H H' → Ax ta σ H' (.ref l)) (hi : ∀ H', Ex H H' → Ax tb σ H' (.int (j : Int))) (hj : j < xs.length)
    (k : ∀ v B' H', Gr B H B' H' → Dp K B' v d → D.nx σ (upd H' l (.lst (xs.set j v)))) : tAsg te (gSub ta tb rSetL) D σ H := h H x _ fun v B' H' g hd => ho H' g.hh _ (hi H' g.hh _ ⟨l, xs, (j : Int), j, rfl, rfl, g.hh _ _ hl, Evl.ixN_nat hj, k v B' H' g hd⟩)
theorem own_lst {i : Nat} (x : Ex B H) (h : EvA K td σ B ds) (hz : ds.length ≤ 100000) (k : ∀ p vs B' H', Gr B H B' H' → DpAll K B' vs ds → H' p = none → D.nx (σ.set i (some (.ref p))) (upd H' p (.lst vs))) : tAsg (tLst td) (gName i) D σ H :=
  h H x _ fun vs B' H' g hd => ⟨small (by rw [da_len hd]; exact hz), fun p hp => k p vs B' H' g hd hp⟩
theorem while_ (Pv : Nat → Sg → Hp → Prop) (m0 : Nat) (h0 : Pv m0 σ H)
    (hs : ∀ m σ' H', Pv m σ' H' → ∃ b B', Ex B' H' ∧ EvT t σ' B' b ∧ (b = true → ∀ H1, Gr B' H' B' H1 → ∃ N : Sg → Hp → Prop, (∀ σ2 H2, N σ2 H2 → ∃ m', m' < m ∧ Pv m' σ2 H2) ∧ tu { D with nx := N, ct := N, bk := D.nx } σ' H1) ∧ (b = false → ∀ H1, Gr B' H' B' H1 → D.nx σ' H1)) : tWhile t tu D σ H :=
  ⟨Pv, ⟨m0, h0⟩, fun m σ' H' hw => by
    obtain ⟨b, B', x, hb, h1, h2⟩ := hs m σ' H' hw
    refine hb H' x _ fun H1 g => ?_
    cases b with
    | true => exact h1 rfl H1 g
    | false => exact h2 rfl H1 g⟩
end
open Classical in
/-- many own objects are told at once -/
theorem Gr.adds {B H B' H' : Hp} (g : Gr B H B' H') (S : Addr → Prop) (h : ∀ a, S a → H a = none ∧ B' a = none) : ∃ B2, Gr B H B2 H' ∧ Ex B' B2 ∧ (∀ a o, S a → H' a = some o → B2 a = some o) ∧ ∀ a, ¬ S a → B2 a = B' a := by
  refine ⟨fun a => if S a then H' a else B' a, ⟨fun a o q => ?_, fun a o q => ?_, g.hh, fun a q => ?_⟩, fun a o q => ?_, fun a o sa q => ?_, fun a na => if_neg na⟩
  · show (if S a then H' a else B' a) = some o
    by_cases z : S a
    · rw [if_pos z]; exact g.bh _ _ (g.bb _ _ q)
    · rw [if_neg z]; exact g.bb _ _ q
  · by_cases z : S a
    · have q : (if S a then H' a else B' a) = some o := q
      rw [if_pos z] at q; exact q
    · have q : (if S a then H' a else B' a) = some o := q
      rw [if_neg z] at q; exact g.bh _ _ q
  · by_cases z : S a
    · exact .inr (h a z).1
    · have q : (if S a then H' a else B' a) ≠ none := q
      rw [if_neg z] at q; exact g.fp a q
  · show (if S a then H' a else B' a) = some o
    by_cases z : S a
    · rw [(h a z).2] at q; cases q
    · rw [if_neg z]; exact q
  · show (if S a then H' a else B' a) = some o
    rw [if_pos sa]; exact q
/-! ### near_lists -/
abbrev sNear : Stmt := topS 8
abbrev nNear : List Str := ["web", "found", "one", "other", "place", "row"]
theorem scNear : FnScope nNear ["web"] (defScope sNear) := ⟨rfl, rfl, rfl, by decide +kernel, rfl, by decide +kernel, by decide +kernel⟩
def rNear (ds : List PyData) (r : PyData) : Prop := ∃ W : Web, W.Ok ∧ ds = [webD W] ∧ r = nearD W
theorem rowOf_snoc (v : Nat) (es : List (Nat × Nat)) (p : Nat × Nat) : rowOf v (es ++ [p]) = rowOf v es ++ ((if p.1 = v then [p.2] else []) ++ (if p.2 = v then [p.1] else [])) := by
  unfold rowOf
  rw [List.flatMap_append]
  simp
theorem rowOf_len (v : Nat) : ∀ es : List (Nat × Nat), (rowOf v es).length ≤ 2 * es.length
  | [] => Nat.zero_le _
  | p :: es => by
    have ih := rowOf_len v es
    have e : rowOf v (p :: es) = ((if p.1 = v then [p.2] else []) ++ (if p.2 = v then [p.1] else [])) ++ rowOf v es := by
      unfold rowOf
      rw [List.flatMap_cons]
    rw [e, List.length_append, List.length_append, List.length_cons]
    have h1 : (if p.1 = v then [p.2] else ([] : List Nat)).length ≤ 1 := by split <;> simp
    have h2 : (if p.2 = v then [p.1] else ([] : List Nat)).length ≤ 1 := by split <;> simp
    omega
theorem Web.Ok.few {W : Web} (ok : W.Ok) : W.es.length ≤ 49 := by
  have := nd_len ok.nd (m := (List.range 7).flatMap fun a => (List.range 7).map fun b => (a, b)) fun p hp => by
    have h := ok.lt p hp
    have := ok.le
    rw [List.mem_flatMap]
    exact ⟨p.1, List.mem_range.mpr (by omega), List.mem_map.mpr ⟨p.2, List.mem_range.mpr (by omega), rfl⟩⟩
  exact this
section
variable {P : Program} {w : World} {K : PySem.W.Frag} {mg : Str → Option Value} {base : Heap}
/-- the word of near_lists' loop -/
structure NearW (W : Web) (H0 : Hp) (L : Addr) (as : List Addr) (i : Nat) (H : Hp) : Prop where
  ex : Ex H0 H
  l : H L = some (.lst (as.map V.ref))
  row : ∀ (j : Nat) (a : Addr), as[j]? = some a → H a = some (.lst ((rowOf j (W.es.take i)).map fun (u : Nat) => V.int (u : Int)))
theorem ok_near {f : Addr} {fd : FuncData} (D : Df K mg "near_lists" sNear ["web"] f fd) (T : Bt mg) : Gd P w K mg base "near_lists" ["web"] 1 (spD K rNear) := by
  refine gd_ofD (N := nNear) D scNear (fun ds r ⟨W, ok, e, _⟩ => by rw [e]; rfl) fun cdv A outer s H B vs ds r Q E hr e hd hR q => ?_
  obtain ⟨W, ok, rfl, rfl⟩ := hR
  obtain ⟨wv, rfl, hw⟩ := da1 hd
  refine ⟨_, pss_cons (ps_setLc (i := 1) (own := [("place", 4)]) (g := gName 4) (tt := tYes) rfl scNear.nd rfl rfl (sw_true rfl rfl rfl (by decide +kernel)) (pi_range1 rfl T.rng (pa_cons (be_ixT K (pv 0) pe_int) pa_nil))
      (blkOk_by (N := nNear) (sc := defScope sNear) (by decide +kernel)) (fun _ _ _ _ _ => pg_name (i := 4) scNear.nd rfl (Or.inl rfl)) (fun _ _ _ _ _ => pts_nil) (fun _ _ _ _ _ => pe_lst pa_nil))
    (pss_cons (ps_for PassesOwn.never rfl (pi_tup (be_ixT K (pv 0) pe_int)) (pg_tup rfl (pgs_cons (pg_name (i := 2) scNear.nd rfl (.inl rfl)) (pgs_cons (pg_name (i := 3) scNear.nd rfl (.inl rfl)) pgs_nil)))
      (pss_cons (ps_expr (pe_bm PySem.F.plainAttrs_list PySem.F.slot_list_append PySem.F.type_list_append mt_append (be_ixL K (pv 1) (pv 2)) (pa_cons (pv 3) pa_nil)))
        (pss_one (ps_expr (pe_bm PySem.F.plainAttrs_list PySem.F.slot_list_append PySem.F.type_list_append mt_append (be_ixL K (pv 1) (pv 3)) (pa_cons (pv 2) pa_nil))))))
    (pss_one (ps_ret (pe_lc (own := [("row", 5)]) (g := gName 5) (tt := tYes) rfl scNear.nd (pi_list (pv 1)) (blkOk_by (N := nNear) (sc := defScope sNear) (by decide +kernel)) (fun _ _ _ _ _ => pg_name (i := 5) scNear.nd rfl (Or.inl rfl)) (fun _ _ _ _ _ => pts_nil)
      (fun _ _ _ _ _ => be_sorted K T.sorted (pv 5)))))), ?_⟩
  have hn : EvD K (tOp (rIxT K) (tVar 0) (tC (.int 0))) (start nNear [wv]) B (.int (W.n : Int)) := ev_ixT (i := 0) (ev_var rfl hw) ev_int rfl
  have hle := ok.le
  -- found = [[] for place in range(web[0])]
  refine sq (as_ (lcR_ (n := W.n) (ea1 hn) e (by omega) fun B1 H1 L g1 hL => ?_))
  refine lc_range (lo := 0) (n := W.n) (fun i H' => ∃ as : List Addr, as.length = i ∧ as.Nodup ∧ Ex H1 H' ∧ H' L = some (.lst (as.map V.ref)) ∧ ∀ a, a ∈ as → H1 a = none ∧ a ≠ L ∧ H' a = some (.lst [])) ?_ ?_ ?_
  · exact ⟨[], rfl, List.nodup_nil, Ex.new hL, upd_same, fun a ha => by simp at ha⟩
  · rintro i H' hi ⟨as, hl, hnd, e1, hLl, ha⟩
    refine ⟨rfl, Nat.zero_le _, fun p hp => ⟨as.map V.ref, ?_, ?_, as ++ [p], ?_, ?_, ?_, ?_, ?_⟩⟩
    · rw [upd_ne (ne_of_none hLl hp)]; exact hLl
    · rw [List.length_map, hl]; exact smallt (by omega)
    · rw [List.length_append, hl]; rfl
    · refine List.nodup_append.mpr ⟨hnd, by simp, fun a h1 b h2 => ?_⟩
      rw [List.mem_singleton] at h2
      rw [h2]
      exact ne_of_none (ha a h1).2.2 hp
    · exact (e1.trans (Ex.new hp)).mut hL
    · rw [upd_same, List.map_append] <;> rfl
    · intro a h1
      rcases List.mem_append.mp h1 with h1 | h1
      · have ⟨z1, z2, z3⟩ := ha a h1
        refine ⟨z1, z2, ?_⟩
        rw [upd_ne z2, upd_ne (ne_of_none z3 hp)]
        exact z3
      · rw [List.mem_singleton] at h1
        rw [h1]
        have z2 : p ≠ L := (ne_of_none hLl hp).symm
        exact ⟨e1.free hp, z2, by rw [upd_ne z2, upd_same]⟩
  rintro H2 ⟨as, hl, hnd, e12, hLl, ha⟩
  have eH2 : Ex H H2 := g1.hh.trans e12
  have freshH : ∀ a, a ∈ as → H a = none := fun a h => g1.hh.free (ha a h).1
  have hLH : H L = none := g1.hh.free hL
  have hln : as.length = W.n := hl
  -- for one, other in web[1]
  have hes : EvD K (tOp (rIxT K) (tVar 0) (tC (.int 1))) [some wv, some (.ref L), none, none, none, none] B (tiesD W.es) := ev_ixT (i := 1) (ev_var rfl hw) ev_int rfl
  refine sq (forT_ hes (e.trans eH2) fun ta ts B3 H3 g3 hts htd => ?_)
  refine for_tup (xs := ts) (fun i σ H' => ∃ y2 y3, σ = [some wv, some (.ref L), y2, y3, none, none] ∧ Ex B3 H' ∧ NearW W H L as i H') ?_ ?_ ?_ ?_
  · refine ⟨none, none, rfl, g3.bh, eH2.trans g3.hh, g3.hh _ _ hLl, fun j a hj => ?_⟩
    have := (ha a (List.mem_of_getElem? hj)).2.2
    exact g3.hh _ _ this
  · rintro i σ H' hi ⟨y2, y3, rfl, eb, nw⟩
    exact eb.st hts
  · rintro i x σ H' hx ⟨y2, y3, rfl, eb, nw⟩
    obtain ⟨d, hd1, hd2⟩ := da_getV htd hx
    rw [List.getElem?_map] at hd1
    cases hp : W.es[i]? with
    | none => rw [hp] at hd1; cases hd1
    | some p =>
      rw [hp] at hd1
      cases hd1
      have hm := List.mem_of_getElem? hp
      have lt := ok.lt p hm
      obtain ⟨pa, pvs, rfl, hps, hpd⟩ := Dpt hd2
      obtain ⟨v1, v2, rfl, hv1, hv2⟩ := da2 hpd
      rw [Dpi hv1, Dpi hv2] at hps
      refine ⟨pa, _, rfl, eb.st hps, rfl, _, _, rfl, _, _, rfl, rfl, ?_⟩
      have l1 : p.1 < as.length := by omega
      have l2 : p.2 < as.length := by omega
      have a1 : as[p.1]? = some as[p.1] := List.getElem?_eq_getElem l1
      have a2 : as[p.2]? = some as[p.2] := List.getElem?_eq_getElem l2
      have m1 := List.mem_of_getElem? a1
      have m2 := List.mem_of_getElem? a2
      have ne12 : as[p.1] ≠ as[p.2] := fun z => by
        have := (List.getElem_inj hnd).mp z
        omega
      have r1 := nw.row _ _ a1
      have r2 := nw.row _ _ a2
      have av : ∀ (j : Nat) (a : Addr), as[j]? = some a → (as.map V.ref)[j]? = some (.ref a) := fun j a h => by rw [List.getElem?_map, h]; rfl
      have few := ok.few
      have rl : ∀ v, (rowOf v (W.es.take i)).length < 100000 := fun v => by
        have := rowOf_len v (W.es.take i)
        rw [List.length_take] at this
        omega
      -- found[one].append(other)
      refine q_app (K := K) (B := B) (e.trans nw.ex) r1 (ax_ixL (i := p.1) (ax_var rfl) (ax_var rfl) nw.l (av _ _ a1)) (ev_var rfl (.int _)) (by rw [List.length_map]; exact rl _) fun v B4 H4 g4 d4 => ?_
      rw [Dpi d4]
      have h1L : as[p.1] ≠ L := (ha _ m1).2.1
      have h2L : as[p.2] ≠ L := (ha _ m2).2.1
      have e4 : Ex H (upd H4 as[p.1] (.lst ((rowOf p.1 (W.es.take i)).map (fun (u : Nat) => V.int (u : Int)) ++ [.int (p.2 : Int)]))) := (nw.ex.trans g4.hh).mut (freshH _ m1)
      have bno : ∀ a, a ∈ as → B3 a = none := fun a h => by
        have h2 := (ha a h).2.2
        have : B a = none := e.free (freshH a h)
        exact g3.off this (by rw [h2]; exact fun z => nomatch z)
      -- found[other].append(one)
      refine s_app (K := K) (B := B) (e.trans e4) (xs := (rowOf p.2 (W.es.take i)).map fun (u : Nat) => V.int (u : Int)) (by rw [upd_ne ne12.symm]; exact g4.hh _ _ r2) (ax_ixL (i := p.2) (ax_var rfl) (ax_var rfl) (by rw [upd_ne h1L.symm]; exact g4.hh _ _ nw.l) (av _ _ a2)) (ev_var rfl (.int _)) (by rw [List.length_map]; exact rl _) fun v B5 H5 g5 d5 => ?_
      rw [Dpi d5]
      have tk : W.es.take (i + 1) = W.es.take i ++ [p] := by
        rw [List.take_add_one, hp] <;> rfl
      refine ⟨_, _, rfl, ?_, (e4.trans g5.hh).mut (freshH _ m2), ?_, fun j a hj => ?_⟩
      · have z1 := ((eb.trans g4.hh).mut (bno _ m1) (o := .lst ((rowOf p.1 (W.es.take i)).map (fun (u : Nat) => V.int (u : Int)) ++ [.int (p.2 : Int)]))).trans g5.hh
        exact z1.mut (bno _ m2)
      · rw [upd_ne h2L.symm]
        refine g5.hh _ _ ?_
        rw [upd_ne h1L.symm]
        exact g4.hh _ _ nw.l
      · have rj := nw.row j a hj
        rw [tk, rowOf_snoc]
        by_cases j2 : p.2 = j
        · have ea : a = as[p.2] := by
            rw [← j2, a2] at hj
            exact (Option.some.inj hj).symm
          rw [ea, upd_same, if_pos j2, if_neg (by omega), j2]
          simp
        · have n2 : a ≠ as[p.2] := fun z => by
            rw [z] at hj
            obtain ⟨hjl, hje⟩ := List.getElem?_eq_some_iff.mp hj
            have := (List.getElem_inj hnd).mp hje
            omega
          rw [upd_ne n2]
          refine g5.hh _ _ ?_
          by_cases j1 : p.1 = j
          · have ea : a = as[p.1] := by
              rw [← j1, a1] at hj
              exact (Option.some.inj hj).symm
            rw [ea, upd_same, if_pos j1, if_neg j2, j1]
            simp
          · have n1 : a ≠ as[p.1] := fun z => by
              rw [z] at hj
              obtain ⟨hjl, hje⟩ := List.getElem?_eq_some_iff.mp hj
              have := (List.getElem_inj hnd).mp hje
              omega
            rw [upd_ne n1, if_neg j1, if_neg j2]
            simp only [List.append_nil]
            exact g4.hh _ _ rj
  · rintro σ H' ⟨y2, y3, rfl, eb, nw⟩
    have hlen : ts.length = W.es.length := by
      have := da_len htd
      rw [List.length_map] at this
      exact this
    have tkall : W.es.take ts.length = W.es := List.take_of_length_le (by omega)
    -- return [sorted(row) for row in found]
    have gB : Gr B H B H' := Gr.ext e nw.ex
    obtain ⟨B6, g6, e6, h6, _⟩ := gB.adds (fun a => a ∈ as ∨ a = L) (fun a h => by
      rcases h with h | h
      · exact ⟨freshH a h, e.free (freshH a h)⟩
      · rw [h]; exact ⟨hLH, e.free hLH⟩)
    have dL : Dp K B6 (.ref L) (.list ((List.range W.n).map fun v => nD (rowOf v W.es))) := by
      refine .lst (.inl (.inl (h6 L _ (.inr rfl) nw.l))) (da_of (by rw [List.length_map, List.length_map, List.length_range, hln]) fun i v d h1 h2 => ?_)
      rw [List.getElem?_map] at h1 h2
      cases hi : as[i]? with
      | none => rw [hi] at h1; cases h1
      | some a =>
        rw [hi] at h1
        cases h1
        have hil := (List.getElem?_eq_some_iff.mp hi).1
        rw [List.getElem?_range (by omega)] at h2
        cases h2
        exact .lst (.inl (.inl (h6 a _ (.inl (List.mem_of_getElem? hi)) (by have z := nw.row i a hi; rw [tkall] at z; exact z)))) (da_nats _)
    refine rt_ ((ef_lcL (K := K) (List.range W.n) (fun v => nD (rowOf v W.es)) (fun _ => true) (fun v => nD (W.nbr v)) (ev_var rfl dL) (by rw [List.length_range]; omega) (fun x => rfl) (fun a ha x B' e' hx => ?_) (fun a ha _ x B' e' hx => ?_)) H' g6.bh _ fun v B7 H7 g7 d7 => ?_)
    · exact fun H x Q q => q H (Gr.refl x)
    · refine (ev_sorted (ns := (rowOf a W.es).map fun (u : Nat) => (u : Int)) (ms := (W.nbr a).map fun (u : Nat) => (u : Int)) ((ev_var rfl hx).is (by unfold nD; rw [ints_map])) ?_ fun ks h1 h2 => ok.sort_row h1 h2).is (by unfold nD; rw [ints_map])
      rw [List.length_map]
      have := nd_len (nd_rowOf (v := a) ok.nd fun p hp => (ok.lt p hp).1) (m := List.range W.n) fun u hu => List.mem_range.mpr (ok.adjLt (u := a) (v := u) (mem_rowOf.mp hu)).2.1
      rw [List.length_range] at this
      omega
    · refine q v B7 H7 (g6.trans g7) ?_
      have := d7.d
      rw [List.filter_eq_self.mpr (fun _ _ => rfl)] at this
      exact this
end
end Fx
set_option Elab.async false
set_option linter.all false
set_option maxRecDepth 100000
set_option autoImplicit false
namespace Fx
open PySem PySem.Spec PyProof.Rows L2
noncomputable def farD (W : Web) (p : Nat) : PyData := .list ((List.range W.n).map fun v => PyData.int (W.D p v : Nat))
noncomputable def tabD (W : Web) : PyData := .list ((List.range W.n).map fun p => farD W p)
def thsD (W : Web) (k : Kd) : PyData := .list ((W.ths k).map thD)
def rFars (ds : List PyData) (r : PyData) : Prop := ∃ (W : Web) (p : Nat), W.Ok ∧ p < W.n ∧ ds = [nearD W, .int (p : Int)] ∧ r = farD W p
theorem far_at {W : Web} {p v : Nat} (h : v < W.n) : ((List.range W.n).map fun v => PyData.int (W.D p v : Nat))[v]? = some (.int (W.D p v : Nat)) := by
  rw [List.getElem?_map, List.getElem?_range h]
  rfl
theorem tab_at {W : Web} {p : Nat} (h : p < W.n) : ((List.range W.n).map fun p => farD W p)[p]? = some (farD W p) := by
  rw [List.getElem?_map, List.getElem?_range h]
  rfl
theorem near_at {W : Web} {u : Nat} (h : u < W.n) : ((List.range W.n).map fun v => nD (W.nbr v))[u]? = some (nD (W.nbr u)) := by
  rw [List.getElem?_map, List.getElem?_range h]
  rfl
theorem list_at {l : List Nat} {i x : Nat} (h : l[i]? = some x) : (l.map fun (u : Nat) => PyData.int (u : Int))[i]? = some (.int (x : Int)) := by
  rw [List.getElem?_map, h]
  rfl
section
variable {K : PySem.W.Frag} {σ : Sg} {B H : Hp} {ta tb tc te : TE} {D : Ends} {tu : TS}
theorem ev_chain {f g : Int → Int → Bool} {i j k : Int} (ha : EvD K ta σ B (.int i)) (hb : EvD K tb σ B (.int j)) (hc : EvD K tc σ B (.int k)) : EvD K (tChain (rI0 fun i j => .bl (f i j)) (rI0 fun i j => .bl (g i j)) ta tb tc) σ B (.bool (f i j && g j k)) := fun H x Q q =>
  ev2 ha hb x fun v w B1 H1 g1 d1 d2 => by
    rw [Dpi d1, Dpi d2]
    refine ⟨i, j, rfl, rfl, f i j, rfl, ?_⟩
    cases hf : f i j with
    | true =>
      show tc σ H1 _
      refine (hc.up g1.bb) H1 g1.bh _ fun u B2 H2 g2 d3 => ?_
      rw [Dpi d3]
      exact ⟨j, k, rfl, rfl, q _ B2 H2 (g1.trans g2) (by rw [hf, Bool.true_and]; exact .bl _)⟩
    | false =>
      show Q (.bl false) H1
      exact q _ B1 H1 g1 (by rw [hf, Bool.false_and]; exact .bl _)
/-- a place asked for: it is one -/
theorem et_place {i n : Nat} (ha : EvD K ta σ B (.int (i : Int))) (hn : EvD K tb σ B (.int (n : Int))) (h : i < n) : EvT (tNot (tTest (tChain (rI0 fun i j => .bl (decide (i ≤ j))) (rI0 fun i j => .bl (decide (i < j))) (tC (.int 0)) ta tb))) σ B false := by
  refine (et_not (et_test (ev_chain (f := fun i j => decide (i ≤ j)) (g := fun i j => decide (i < j)) ev_int ha hn))).is ?_
  rw [decide_eq_true (by omega), decide_eq_true (by omega)]
  rfl
/-- an if whose branch is never taken -/
theorem s_no {t : TT} (x : Ex B H) (h : EvT t σ B false) (k : ∀ H', Ex H H' → D.nx σ H') : tIfS t tNever tNext D σ H := s_if x h (fun q => nomatch q) fun _ H' g => k H' g.hh
theorem ef_lstRg {n : Nat} (h : EvD K ta σ B (.int (n : Int))) (hn : n ≤ 100000) : EvF K (tLstRg (tRg1 ta)) σ B ((List.range n).map fun (u : Nat) => PyData.int (u : Int)) := fun H x Q q =>
  h H x _ fun v B1 H1 g1 d1 => by
    refine ⟨n, Dpi d1, ⟨by omega, by omega, by omega, by omega, by omega⟩, fun p hp => ?_⟩
    rw [rgV_map]
    exact q _ _ _ (g1.trans (Gr.new g1.bh hp)) (Dl.new g1.bh hp (da_nats _))
end
theorem sh_pair (a b : Int) : SeqAt.shaped (.tuple [.int a, .int b]) = true := by
  have e : PyData.depth (.tuple [.int a, .int b]) ≤ 64 := by simp [PyData.depth, PyData.depthAll]
  show (PyData.canLay0 (.tuple [.int a, .int b]) && decide (PyData.depth (.tuple [.int a, .int b]) ≤ 64)) = true
  rw [decide_eq_true e]
  simp [PyData.canLay0, PyData.canLayAll0]
theorem lay_ties : ∀ es : List (Nat × Nat), PyData.canLayAll0 (es.map tieD) = true ∧ PyData.depthAll (es.map tieD) ≤ 2
  | [] => by simp [PyData.canLayAll0, PyData.depthAll]
  | p :: es => by
    have ⟨h1, h2⟩ := lay_ties es
    refine ⟨?_, ?_⟩
    · rw [List.map_cons]
      simp only [PyData.canLayAll0, h1, Bool.and_true]
      simp [tieD, PyData.canLay0, PyData.canLayAll0]
    · rw [List.map_cons]
      simp only [PyData.depthAll]
      refine Nat.max_le.mpr ⟨?_, h2⟩
      simp [tieD, PyData.depth, PyData.depthAll]
theorem sh_ties (es : List (Nat × Nat)) : SeqAt.shaped (.tuple (es.map tieD)) = true := by
  have ⟨h1, h2⟩ := lay_ties es
  have e : PyData.depth (.tuple (es.map tieD)) ≤ 64 := by
    simp only [PyData.depth]
    omega
  show (PyData.canLay0 (.tuple (es.map tieD)) && decide (PyData.depth (.tuple (es.map tieD)) ≤ 64)) = true
  rw [decide_eq_true e]
  simp only [PyData.canLay0, h1, Bool.and_true]
theorem eqv_pair (a b c d : Int) : PyData.eqv (.tuple [.int a, .int b]) (.tuple [.int c, .int d]) = (decide (a = c) && decide (b = d)) := by
  simp only [PyData.eqv, PyData.eqvAll, Bool.and_true]
  by_cases h : a = c <;> by_cases h2 : b = d <;> simp [h, h2]
/-! ### place_asked -/
abbrev sPl : Stmt := topS 10
abbrev nPl : List Str := ["web", "place"]
theorem scPl : FnScope nPl ["web", "place"] (defScope sPl) := ⟨rfl, rfl, rfl, by decide +kernel, rfl, by decide +kernel, by decide +kernel⟩
def rPl (ds : List PyData) (r : PyData) : Prop := ∃ (W : Web) (p : Nat), W.Ok ∧ p < W.n ∧ ds = [webD W, .int (p : Int)] ∧ r = .none
abbrev sNb : Stmt := topS 11
theorem scNb : FnScope nPl ["web", "place"] (defScope sNb) := ⟨rfl, rfl, rfl, by decide +kernel, rfl, by decide +kernel, by decide +kernel⟩
def rNb (ds : List PyData) (r : PyData) : Prop := ∃ (W : Web) (p : Nat), W.Ok ∧ p < W.n ∧ ds = [webD W, .int (p : Int)] ∧ r = nD (W.nbr p)
abbrev sFf : Stmt := topS 12
theorem scFf : FnScope nPl ["web", "place"] (defScope sFf) := ⟨rfl, rfl, rfl, by decide +kernel, rfl, by decide +kernel, by decide +kernel⟩
def rFf (ds : List PyData) (r : PyData) : Prop := ∃ (W : Web) (p : Nat), W.Ok ∧ p < W.n ∧ ds = [webD W, .int (p : Int)] ∧ r = farD W p
abbrev sTab : Stmt := topS 14
abbrev nTab : List Str := ["web", "place"]
theorem scTab : FnScope nTab ["web"] (defScope sTab) := ⟨rfl, rfl, rfl, by decide +kernel, rfl, by decide +kernel, by decide +kernel⟩
def rTab (ds : List PyData) (r : PyData) : Prop := ∃ (W : Web), W.Ok ∧ ds = [webD W] ∧ r = tabD W
abbrev sThs : Stmt := topS 15
abbrev nThs : List Str := ["web", "kind", "places"]
theorem scThs : FnScope nThs ["web", "kind"] (defScope sThs) := ⟨rfl, rfl, rfl, by decide +kernel, rfl, by decide +kernel, by decide +kernel⟩
def rThs (ds : List PyData) (r : PyData) : Prop := ∃ (W : Web) (k : Kd), W.Ok ∧ ds = [webD W, kdD k] ∧ r = thsD W k
abbrev sLa : Stmt := topS 16
abbrev nLa : List Str := ["web", "looks", "at", "look"]
theorem scLa : FnScope nLa ["web", "looks"] (defScope sLa) := ⟨rfl, rfl, rfl, by decide +kernel, rfl, by decide +kernel, by decide +kernel⟩
def rLa (ds : List PyData) (r : PyData) : Prop := ∃ (W : Web) (L : List Nat), W.Ok ∧ W.Lk L ∧ ds = [webD W, nD L] ∧ r = .none
abbrev sTa : Stmt := topS 17
abbrev nTa : List Str := ["web", "thing"]
theorem scTa : FnScope nTa ["web", "thing"] (defScope sTa) := ⟨rfl, rfl, rfl, by decide +kernel, rfl, by decide +kernel, by decide +kernel⟩
def rTa (ds : List PyData) (r : PyData) : Prop := ∃ (W : Web) (t : Th), W.Ok ∧ W.isTh t ∧ ds = [webD W, thD t] ∧ r = .none
abbrev sFb : Stmt := topS 18
abbrev nFb : List Str := ["table", "look", "thing"]
theorem scFb : FnScope nFb ["table", "look", "thing"] (defScope sFb) := ⟨rfl, rfl, rfl, by decide +kernel, rfl, by decide +kernel, by decide +kernel⟩
def rFb (ds : List PyData) (r : PyData) : Prop := ∃ (W : Web) (l : Nat) (t : Th), W.Ok ∧ l < W.n ∧ W.isTh t ∧ ds = [tabD W, .int (l : Int), thD t] ∧ r = .int (W.dT l t : Nat)
abbrev sPb : Stmt := topS 19
abbrev nPb : List Str := ["table", "one", "other", "place"]
theorem scPb : FnScope nPb ["table", "one", "other"] (defScope sPb) := ⟨rfl, rfl, rfl, by decide +kernel, rfl, by decide +kernel, by decide +kernel⟩
def rPb (ds : List PyData) (r : PyData) : Prop := ∃ (W : Web) (s t : Th), W.Ok ∧ W.isTh s ∧ W.isTh t ∧ ds = [tabD W, thD s, thD t] ∧ r = nD ((List.range W.n).filter fun p => decide (W.dT p s ≠ W.dT p t))
abbrev sPo : Stmt := topS 20
abbrev nPo : List Str := ["web", "one", "other"]
theorem scPo : FnScope nPo ["web", "one", "other"] (defScope sPo) := ⟨rfl, rfl, rfl, by decide +kernel, rfl, by decide +kernel, by decide +kernel⟩
def rPo (ds : List PyData) (r : PyData) : Prop := ∃ (W : Web) (s t : Th), W.Ok ∧ W.isTh s ∧ W.isTh t ∧ ds = [webD W, thD s, thD t] ∧ r = nD ((List.range W.n).filter fun p => decide (W.dT p s ≠ W.dT p t))
theorem nmap_all (n : Nat) : (List.range n).filter (fun _ => true) = List.range n := List.filter_eq_self.mpr fun _ _ => rfl
section
variable {P : Program} {w : World} {K : PySem.W.Frag} {mg : Str → Option Value} {base : Heap}
theorem ok_pl {f : Addr} {fd : FuncData} (D : Df K mg "place_asked" sPl ["web", "place"] f fd) : Gd P w K mg base "place_asked" ["web", "place"] 1 (spD K rPl) := by
  refine gd_ofD (N := nPl) D scPl (fun ds r ⟨W, p, _, _, e, _⟩ => by rw [e]; rfl) fun cdv A outer s H B vs ds r Q E hr e hd hR q => ?_
  obtain ⟨W, p, ok, hp, rfl, rfl⟩ := hR
  obtain ⟨wv, pv', rfl, hw, hpv⟩ := da2 hd
  refine ⟨_, pss_one (ps_if (pt_not (pt_chain op_le op_lt pe_int (pv 1) (be_ixT K (pv 0) pe_int))) pss_never pss_nil), ?_⟩
  exact s_no e (et_place (K := K) (ev_var rfl hpv) (ev_ixT (i := 0) (ev_var rfl hw) ev_int rfl) hp) fun H' x => q .non B H' (Gr.ext e x) .non
theorem ok_nb {f : Addr} {fd : FuncData} (D : Df K mg "neighbours_of" sNb ["web", "place"] f fd) (G1 : Gd P w K mg base "place_asked" ["web", "place"] 1 (spD K rPl)) (G2 : Gd P w K mg base "near_lists" ["web"] 1 (spD K rNear)) : Gd P w K mg base "neighbours_of" ["web", "place"] 2 (spD K rNb) := by
  refine gd_ofD (N := nPl) D scNb (fun ds r ⟨W, p, _, _, e, _⟩ => by rw [e]; rfl) fun cdv A outer s H B vs ds r Q E hr e hd hR q => ?_
  obtain ⟨W, p, ok, hp, rfl, rfl⟩ := hR
  obtain ⟨wv, pv', rfl, hw, hpv⟩ := da2 hd
  refine ⟨_, pss_cons (ps_expr (pe_fn G1 hr (pa_cons (pv 0) (pa_cons (pv 1) pa_nil)))) (pss_one (ps_ret (be_ixL K (pe_fn G2 hr (pa_cons (pv 0) pa_nil)) (pv 1)))), ?_⟩
  refine q_drop (K := K) e (ev_call (ea2 (ev_var rfl hw) (ev_var rfl hpv)) ⟨W, p, ok, hp, rfl, rfl⟩) fun v B1 H1 g1 d1 => ?_
  exact s_ret (K := K) g1.bh (ev_ixL (i := p) (ev_call (ea1 (ev_var rfl (dm g1.bb hw))) ⟨W, ok, rfl, rfl⟩) (ev_var rfl (dm g1.bb hpv)) (near_at hp)) fun v B2 H2 g2 d2 => q v B2 H2 (g1.trans g2) d2
theorem ok_ff {f : Addr} {fd : FuncData} (D : Df K mg "fars_from" sFf ["web", "place"] f fd) (G1 : Gd P w K mg base "place_asked" ["web", "place"] 1 (spD K rPl)) (G2 : Gd P w K mg base "near_lists" ["web"] 1 (spD K rNear)) (G3 : Gd P w K mg base "fars_by" ["near", "place"] 1 (spD K rFars)) : Gd P w K mg base "fars_from" ["web", "place"] 2 (spD K rFf) := by
  refine gd_ofD (N := nPl) D scFf (fun ds r ⟨W, p, _, _, e, _⟩ => by rw [e]; rfl) fun cdv A outer s H B vs ds r Q E hr e hd hR q => ?_
  obtain ⟨W, p, ok, hp, rfl, rfl⟩ := hR
  obtain ⟨wv, pv', rfl, hw, hpv⟩ := da2 hd
  refine ⟨_, pss_cons (ps_expr (pe_fn G1 hr (pa_cons (pv 0) (pa_cons (pv 1) pa_nil)))) (pss_one (ps_ret (pe_fn G3 hr (pa_cons (pe_fn G2 hr (pa_cons (pv 0) pa_nil)) (pa_cons (pv 1) pa_nil))))), ?_⟩
  refine q_drop (K := K) e (ev_call (ea2 (ev_var rfl hw) (ev_var rfl hpv)) ⟨W, p, ok, hp, rfl, rfl⟩) fun v B1 H1 g1 d1 => ?_
  exact s_ret (K := K) g1.bh (ev_call (ea2 (ev_call (ea1 (ev_var rfl (dm g1.bb hw))) ⟨W, ok, rfl, rfl⟩) (ev_var rfl (dm g1.bb hpv))) ⟨W, p, ok, hp, rfl, rfl⟩) fun v B2 H2 g2 d2 => q v B2 H2 (g1.trans g2) d2
theorem ok_tab {f : Addr} {fd : FuncData} (D : Df K mg "table_of" sTab ["web"] f fd) (T : Bt mg) (G : Gd P w K mg base "fars_from" ["web", "place"] 2 (spD K rFf)) : Gd P w K mg base "table_of" ["web"] 3 (spD K rTab) := by
  refine gd_ofD (N := nTab) D scTab (fun ds r ⟨W, _, e, _⟩ => by rw [e]; rfl) fun cdv A outer s H B vs ds r Q E hr e hd hR q => ?_
  obtain ⟨W, ok, rfl, rfl⟩ := hR
  obtain ⟨wv, rfl, hw⟩ := da1 hd
  have hle := ok.le
  refine ⟨_, pss_one (ps_ret (pe_lc (own := [("place", 1)]) (g := gName 1) (tt := tYes) rfl scTab.nd (pi_range1 rfl T.rng (pa_cons (be_ixT K (pv 0) pe_int) pa_nil)) (blkOk_by (N := nTab) (sc := defScope sTab) (by decide +kernel)) (fun _ _ _ _ _ => pg_name (i := 1) scTab.nd rfl (Or.inl rfl)) (fun _ _ _ _ _ => pts_nil)
      (fun _ _ _ _ _ => pe_fn G hr (pa_cons (pv 0) (pa_cons (pv 1) pa_nil))))), ?_⟩
  refine s_ret (K := K) e (ef_lcR (K := K) W.n (fun _ => true) (fun p => farD W p) (ea1 (ev_ixT (i := 0) (ev_var rfl hw) ev_int rfl)) (by omega) (fun _ => rfl) (fun _ _ _ _ => fun H x Q q => q H (Gr.refl x)) (fun p hp _ B' e' => ev_call (ea2 (ev_var rfl (dm e' hw)) (ev_var rfl (.int _))) ⟨W, p, ok, hp, rfl, rfl⟩)).toD fun v B2 H2 g2 d2 => q v B2 H2 g2 ?_
  rw [nmap_all] at d2
  exact d2
theorem ok_ths {f : Addr} {fd : FuncData} (D : Df K mg "things_of" sThs ["web", "kind"] f fd) (T : Bt mg) : Gd P w K mg base "things_of" ["web", "kind"] 1 (spD K rThs) := by
  refine gd_ofD (N := nThs) D scThs (fun ds r ⟨W, k, _, e, _⟩ => by rw [e]; rfl) fun cdv A outer s H B vs ds r Q E hr e hd hR q => ?_
  obtain ⟨W, k, ok, rfl, rfl⟩ := hR
  obtain ⟨wv, kv, rfl, hw, hk⟩ := da2 hd
  have hle := ok.le
  refine ⟨_, pss_cons (ps_set (i := 2) scThs.nd rfl (.inl rfl) (pe_listRg rfl (by rfl) T.list (prg_1 (by rfl) T.rng (be_ixT K (pv 0) pe_int))))
    (pss_cons (ps_if (pt_cmpR op_eq (pv 1) pe_str (nomark _)) (pss_one (ps_ret (pv 2))) pss_nil)
    (pss_cons (ps_if (pt_cmpR op_eq (pv 1) pe_str (nomark _)) (pss_one (ps_ret (be_list K T.list (be_ixT K (pv 0) pe_int)))) pss_nil)
    (pss_one (ps_ret (pe_op op_cat (pv 2) (be_list K T.list (be_ixT K (pv 0) pe_int))))))), ?_⟩
  refine q_asgF (K := K) e (ef_lstRg (ev_ixT (i := 0) (ev_var rfl hw) ev_int rfl) (by omega)) fun pl B1 H1 g1 d1 => ?_
  have hk1 := dm g1.bb hk
  have hw1 := dm g1.bb hw
  have e1 : (W.ths .places).map thD = (List.range W.n).map fun (u : Nat) => PyData.int (u : Int) := by
    show ((List.range W.n).map Th.pl).map thD = _
    rw [List.map_map]
    rfl
  have e2 : (W.ths .ties).map thD = W.es.map tieD := by
    show (W.es.map fun p => Th.ti p.1 p.2).map thD = _
    rw [List.map_map]
    rfl
  have hl2 : EvF K (tCB (listR K) (tCons (tOp (rIxT K) (tVar 0) (tC (.int 1))) tNil)) [some wv, some kv, some pl] B1 (W.es.map tieD) := ef_listT (ev_ixT (i := 1) (ev_var rfl hw1) ev_int rfl)
  cases k with
  | places =>
    refine q_if (b := true) g1.bh (et_test (K := K) (ev_eq (ev_var rfl hk1) ev_str rfl rfl rfl (by decide))) (fun _ H2 g2 => ?_) (fun z => nomatch z)
    refine s_ret (K := K) (B := B1) g2.bh (ev_var rfl d1.d) fun v B3 H3 g3 d3 => q v B3 H3 ((g1.trans g2).trans g3) ?_
    unfold thsD
    rw [e1]
    exact d3
  | ties =>
    refine q_if (b := false) g1.bh (et_test (K := K) (ev_eq (ev_var rfl hk1) ev_str rfl rfl rfl (by decide))) (fun z => nomatch z) (fun _ H2 g2 => ?_)
    refine q_if (b := true) g2.bh (et_test (K := K) (ev_eq (ev_var rfl hk1) ev_str rfl rfl rfl (by decide))) (fun _ H3 g3 => ?_) (fun z => nomatch z)
    refine s_ret (K := K) (B := B1) g3.bh hl2.toD fun v B4 H4 g4 d4 => q v B4 H4 (((g1.trans g2).trans g3).trans g4) ?_
    unfold thsD
    rw [e2]
    exact d4
  | all =>
    refine q_if (b := false) g1.bh (et_test (K := K) (ev_eq (ev_var rfl hk1) ev_str rfl rfl rfl (by decide))) (fun z => nomatch z) (fun _ H2 g2 => ?_)
    refine q_if (b := false) g2.bh (et_test (K := K) (ev_eq (ev_var rfl hk1) ev_str rfl rfl rfl (by decide))) (fun z => nomatch z) (fun _ H3 g3 => ?_)
    refine s_ret (K := K) (B := B1) g3.bh (ef_cat (ef_var rfl d1) hl2 (by rw [List.length_map, List.length_map, List.length_range]; have := ok.few; omega)).toD fun v B4 H4 g4 d4 => q v B4 H4 (((g1.trans g2).trans g3).trans g4) ?_
    have e3 : (W.ths .all).map thD = ((List.range W.n).map fun (u : Nat) => PyData.int (u : Int)) ++ W.es.map tieD := by
      rw [← e1, ← e2]
      exact List.map_append
    unfold thsD
    rw [e3]
    exact d4
theorem ok_la {f : Addr} {fd : FuncData} (D : Df K mg "looks_asked" sLa ["web", "looks"] f fd) (T : Bt mg) : Gd P w K mg base "looks_asked" ["web", "looks"] 1 (spD K rLa) := by
  refine gd_ofD (N := nLa) D scLa (fun ds r ⟨W, L, _, _, e, _⟩ => by rw [e]; rfl) fun cdv A outer s H B vs ds r Q E hr e hd hR q => ?_
  obtain ⟨W, L, ok, hL, rfl, rfl⟩ := hR
  obtain ⟨wv, lv, rfl, hw, hl⟩ := da2 hd
  refine ⟨_, pss_one (ps_for PassesOwn.never rfl (pi_enum (by rfl) T.enum (pa_cons (pv 1) pa_nil)) (pg_tup rfl (pgs_cons (pg_name (i := 2) scLa.nd rfl (.inl rfl)) (pgs_cons (pg_name (i := 3) scLa.nd rfl (.inl rfl)) pgs_nil)))
    (pss_one (ps_if (PW.pt (pw_or (pt_not (pt_chain op_le op_lt pe_int (pv 3) (be_ixT K (pv 0) pe_int))) (pw_or1 (PW.pt (pw_and (pt_cmpR op_gt (pv 2) pe_int (nomark _)) (pw_and1 (pt_cmpR op_le (pv 3) (be_ixL K (pv 1) (pe_op op_sub (pv 2) pe_int)) (nomark _))))))))
      pss_never pss_nil))), ?_⟩
  refine forE_ (K := K) (ea1 (ev_var rfl hl)) e fun a xs B1 H1 g1 hs hda => ?_
  have hx := da_natsV hda
  subst hx
  refine for_enum (xs := L.map fun (u : Nat) => V.int (u : Int)) (fun i σ H' => ∃ x2 x3, σ = [some wv, some lv, x2, x3] ∧ Ex H1 H') ⟨none, none, rfl, Ex.refl _⟩ ?_ ?_ ?_
  · rintro i σ H' _ ⟨x2, x3, rfl, x⟩
    exact (g1.bh.trans x).sl hs
  · rintro i y U σ H' hy ⟨x2, x3, rfl, x⟩ hU
    rw [List.getElem?_map] at hy
    cases hi : L[i]? with
    | none => rw [hi] at hy; cases hy
    | some l =>
      rw [hi] at hy
      cases hy
      have hln := hL.lt (List.mem_of_getElem? hi)
      have xU : Ex B (upd H' U (.tup [.int (i : Nat), .int (l : Int)])) := (e.trans (g1.hh.trans x)).trans (Ex.new hU)
      refine ⟨U, _, rfl, .inl (.inl upd_same), rfl, _, _, rfl, _, _, rfl, rfl, ?_⟩
      refine s_no (B := B) xU ((et_or (a := false) (b := false) (et_place (K := K) (i := l) (ev_var rfl (.int _)) (ev_ixT (i := 0) (ev_var rfl hw) ev_int rfl) hln) fun _ => ?_).is rfl) fun H2 x2 => ⟨_, _, rfl, (x.trans (Ex.new hU)).trans x2⟩
      cases i with
      | zero => exact (et_and (a := false) (b := false) (et_test (K := K) ((ev_I0b (g := fun i j => decide (j < i)) (ev_var rfl (.int _)) ev_int).is rfl)) fun z => nomatch z).is rfl
      | succ i =>
        have hil := (List.getElem?_eq_some_iff.mp hi).1
        have hp : L[i]? = some (L[i]'(by omega)) := List.getElem?_eq_getElem (by omega)
        have hlt : L[i]'(by omega) < l := by
          have := List.pairwise_iff_getElem.mp hL.up i (i + 1) (by omega) hil (by omega)
          rw [(List.getElem?_eq_some_iff.mp hi).2] at this
          exact this
        generalize (L[i]'(by omega)) = pr at hp hlt
        refine (et_and (a := true) (b := false) (et_test (K := K) ((ev_I0b (g := fun i j => decide (j < i)) (ev_var rfl (.int _)) ev_int).is ?_)) fun _ => ?_).is rfl
        · rw [decide_eq_true (by omega)]
        · refine et_test (K := K) ((ev_I0b (g := fun i j => decide (i ≤ j)) (i := l) (j := pr) (ev_var rfl (.int _)) (ev_ixL (i := i) (ev_var rfl hl) ((ev_I0 (g := fun i j => i - j) (i := ((i + 1 : Nat) : Int)) (j := 1) (ev_var rfl (.int _)) ev_int).is ?_) (list_at hp))).is ?_)
          · congr 1
            omega
          · rw [decide_eq_false (by omega)]
  · rintro σ H' ⟨x2, x3, rfl, x⟩
    exact q .non B H' (Gr.ext e (g1.hh.trans x)) .non
theorem ok_ta {f : Addr} {fd : FuncData} (D : Df K mg "thing_asked" sTa ["web", "thing"] f fd) (T : Bt mg) : Gd P w K mg base "thing_asked" ["web", "thing"] 1 (spD K rTa) := by
  refine gd_ofD (N := nTa) D scTa (fun ds r ⟨W, t, _, _, e, _⟩ => by rw [e]; rfl) fun cdv A outer s H B vs ds r Q E hr e hd hR q => ?_
  obtain ⟨W, t, ok, ht, rfl, rfl⟩ := hR
  obtain ⟨wv, tv, rfl, hw, htv⟩ := da2 hd
  refine ⟨_, pss_one (ps_if (pt_val (be_isi K T.isi T.int PyProof.Rows.boot_int (pv 1)))
    (pss_one (ps_if (pt_not (pt_chain op_le op_lt pe_int (pv 1) (be_ixT K (pv 0) pe_int))) pss_never pss_nil))
    (pss_one (ps_if (pt_cmpR (op_notInU (u65 hr)) (pv 1) (be_ixT K (pv 0) pe_int) (by rfl)) pss_never pss_nil))), ?_⟩
  cases t with
  | pl v =>
    refine s_if (b := true) e (et_B (K := K) (ev_isi (t := "int") (ev_var rfl htv) (fun H v h => tyD_int h) (by decide +kernel))) (fun _ H1 g1 => ?_) (fun z => nomatch z)
    exact s_no (B := B) g1.bh (et_place (K := K) (ev_var rfl htv) (ev_ixT (i := 0) (ev_var rfl hw) ev_int rfl) ht) fun H' x => q .non B H' (g1.trans (Gr.ext g1.bh x)) .non
  | ti a b =>
    refine s_if (b := false) e (et_B (K := K) (ev_isi (t := "tuple") (ev_var rfl htv) (fun H v h => tyD_tup h) (by decide +kernel))) (fun z => nomatch z) (fun _ H1 g1 => ?_)
    refine s_no (B := B) g1.bh (et_test (K := K) ((ev_notInU (ev_var rfl htv) (ev_ixT (i := 1) (ev_var rfl hw) ev_int rfl) (sh_pair _ _) (sh_ties _)).is ?_)) fun H' x => q .non B H' (g1.trans (Gr.ext g1.bh x)) .non
    have : ((W.es.map tieD).any fun z => PyData.eqv z (thD (.ti a b))) = true := by
      rw [List.any_eq_true]
      refine ⟨tieD (a, b), List.mem_map.mpr ⟨_, ht, rfl⟩, ?_⟩
      show PyData.eqv (.tuple [.int (a : Int), .int (b : Int)]) (.tuple [.int (a : Int), .int (b : Int)]) = true
      rw [eqv_pair]
      simp
    rw [this]
    rfl
theorem ok_fb {f : Addr} {fd : FuncData} (D : Df K mg "far_by" sFb ["table", "look", "thing"] f fd) (T : Bt mg) : Gd P w K mg base "far_by" ["table", "look", "thing"] 1 (spD K rFb) := by
  refine gd_ofD (N := nFb) D scFb (fun ds r ⟨W, l, t, _, _, _, e, _⟩ => by rw [e]; rfl) fun cdv A outer s H B vs ds r Q E hr e hd hR q => ?_
  obtain ⟨W, l, t, ok, hl, ht, rfl, rfl⟩ := hR
  obtain ⟨av, lv, tv, rfl, ha, hlv, htv⟩ := da3 hd
  refine ⟨_, pss_cons (ps_if (pt_val (be_isi K T.isi T.int PyProof.Rows.boot_int (pv 2))) (pss_one (ps_ret (be_ixL K (be_ixL K (pv 0) (pv 1)) (pv 2)))) pss_nil)
    (pss_one (ps_ret (be_min2 T.min (be_ixL K (be_ixL K (pv 0) (pv 1)) (be_ixT K (pv 2) pe_int)) (be_ixL K (be_ixL K (pv 0) (pv 1)) (be_ixT K (pv 2) pe_int))))), ?_⟩
  have row : EvD K (tOp (rIxL K) (tVar 0) (tVar 1)) [some av, some lv, some tv] B (farD W l) := ev_ixL (i := l) (ev_var rfl ha) (ev_var rfl hlv) (tab_at hl)
  cases t with
  | pl v =>
    refine q_if (b := true) e (et_B (K := K) (ev_isi (t := "int") (ev_var rfl htv) (fun H v h => tyD_int h) (by decide +kernel))) (fun _ H1 g1 => ?_) (fun z => nomatch z)
    exact s_ret (K := K) (B := B) g1.bh (ev_ixL (i := v) row (ev_var rfl htv) (far_at ht)) fun v B2 H2 g2 d2 => q v B2 H2 (g1.trans g2) d2
  | ti a b =>
    refine q_if (b := false) e (et_B (K := K) (ev_isi (t := "tuple") (ev_var rfl htv) (fun H v h => tyD_tup h) (by decide +kernel))) (fun z => nomatch z) (fun _ H1 g1 => ?_)
    have lt := ok.lt _ ht
    simp only at lt
    refine s_ret (K := K) (B := B) g1.bh (ev_min2 (i := (W.D l a : Nat)) (j := (W.D l b : Nat)) (ev_ixL (i := a) row (ev_ixT (i := 0) (ev_var rfl htv) ev_int rfl) (far_at (by omega))) (ev_ixL (i := b) row (ev_ixT (i := 1) (ev_var rfl htv) ev_int rfl) (far_at lt.2))) fun v B2 H2 g2 d2 => q v B2 H2 (g1.trans g2) ?_
    have e2 : ((W.dT l (.ti a b) : Nat) : Int) = min (W.D l a : Int) (W.D l b : Int) := by
      show ((min (W.D l a) (W.D l b) : Nat) : Int) = _
      omega
    rw [e2]
    exact d2
theorem ok_pb {f : Addr} {fd : FuncData} (D : Df K mg "parters_by" sPb ["table", "one", "other"] f fd) (T : Bt mg) (G : Gd P w K mg base "far_by" ["table", "look", "thing"] 1 (spD K rFb)) : Gd P w K mg base "parters_by" ["table", "one", "other"] 2 (spD K rPb) := by
  refine gd_ofD (N := nPb) D scPb (fun ds r ⟨W, s, t, _, _, _, e, _⟩ => by rw [e]; rfl) fun cdv A outer s H B vs ds r Q E hr e hd hR q => ?_
  obtain ⟨W, th, th2, ok, h1, h2, rfl, rfl⟩ := hR
  obtain ⟨av, ov, tv, rfl, ha, hov, htv⟩ := da3 hd
  have hle := ok.le
  refine ⟨_, pss_one (ps_ret (pe_lc (own := [("place", 3)]) (g := gName 3) rfl scPb.nd (pi_range1 rfl T.rng (pa_cons (be_len K T.len (pv 0)) pa_nil)) (blkOk_by (N := nPb) (sc := defScope sPb) (by decide +kernel)) (fun _ _ _ _ _ => pg_name (i := 3) scPb.nd rfl (Or.inl rfl))
      (fun _ _ _ _ _ => pts_one (pt_cmpR op_ne (pe_fn G hr (pa_cons (pv 0) (pa_cons (pv 3) (pa_cons (pv 1) pa_nil)))) (pe_fn G hr (pa_cons (pv 0) (pa_cons (pv 3) (pa_cons (pv 2) pa_nil)))) (nomark _)))
      (fun _ _ _ _ _ => pv 3))), ?_⟩
  refine s_ret (K := K) e (ef_lcR (K := K) W.n (fun p => decide (W.dT p th ≠ W.dT p th2)) (fun p => .int (p : Int)) (ea1 ((ev_lenL (ev_var rfl ha)).is (by rw [List.length_map, List.length_range]))) (by omega) (fun _ => rfl) (fun p hp B' e' => ?_) (fun p hp _ B' e' => ev_var rfl (.int _))).toD fun v B2 H2 g2 d2 => q v B2 H2 g2 d2
  refine (et_test (K := K) (ev_neI (ev_call (ea3 (ev_var rfl (dm e' ha)) (ev_var rfl (.int _)) (ev_var rfl (dm e' hov))) ⟨W, p, th, ok, hp, h1, rfl, rfl⟩) (ev_call (ea3 (ev_var rfl (dm e' ha)) (ev_var rfl (.int _)) (ev_var rfl (dm e' htv))) ⟨W, p, th2, ok, hp, h2, rfl, rfl⟩))).is ?_
  rw [← decide_not]
  exact decide_eq_decide.mpr ⟨fun h z => h (by rw [z]), fun h z => h (by omega)⟩
theorem ok_po {f : Addr} {fd : FuncData} (D : Df K mg "parters_of" sPo ["web", "one", "other"] f fd) (G1 : Gd P w K mg base "thing_asked" ["web", "thing"] 1 (spD K rTa)) (G2 : Gd P w K mg base "table_of" ["web"] 3 (spD K rTab)) (G3 : Gd P w K mg base "parters_by" ["table", "one", "other"] 2 (spD K rPb)) : Gd P w K mg base "parters_of" ["web", "one", "other"] 4 (spD K rPo) := by
  refine gd_ofD (N := nPo) D scPo (fun ds r ⟨W, s, t, _, _, _, e, _⟩ => by rw [e]; rfl) fun cdv A outer s H B vs ds r Q E hr e hd hR q => ?_
  obtain ⟨W, th, th2, ok, h1, h2, rfl, rfl⟩ := hR
  obtain ⟨wv, ov, tv, rfl, hw, hov, htv⟩ := da3 hd
  refine ⟨_, pss_cons (ps_expr (pe_fn G1 hr (pa_cons (pv 0) (pa_cons (pv 1) pa_nil)))) (pss_cons (ps_expr (pe_fn G1 hr (pa_cons (pv 0) (pa_cons (pv 2) pa_nil))))
    (pss_one (ps_ret (pe_fn G3 hr (pa_cons (pe_fn G2 hr (pa_cons (pv 0) pa_nil)) (pa_cons (pv 1) (pa_cons (pv 2) pa_nil))))))), ?_⟩
  refine q_drop (K := K) e (ev_call (ea2 (ev_var rfl hw) (ev_var rfl hov)) ⟨W, th, ok, h1, rfl, rfl⟩) fun v B1 H1 g1 d1 => ?_
  refine q_drop (K := K) (B := B) (e.trans g1.hh) (ev_call (ea2 (ev_var rfl hw) (ev_var rfl htv)) ⟨W, th2, ok, h2, rfl, rfl⟩) fun v B2 H2 g2 d2 => ?_
  exact s_ret (K := K) (B := B) ((e.trans g1.hh).trans g2.hh) (ev_call (ea3 (ev_call (ea1 (ev_var rfl hw)) ⟨W, ok, rfl, rfl⟩) (ev_var rfl hov) (ev_var rfl htv)) ⟨W, th, th2, ok, h1, h2, rfl, rfl⟩) fun v B3 H3 g3 d3 => q v B3 H3 (((g1.keep e).trans (g2.keep (e.trans g1.hh))).trans g3) d3
end
end Fx
set_option Elab.async false
set_option linter.all false
set_option maxRecDepth 100000
set_option autoImplicit false
namespace Fx
open PySem PySem.Spec PyProof.Rows L2
/-! ### fars_by -/
abbrev sFars : Stmt := topS 9
abbrev nFars : List Str := ["near", "place", "found", "line", "at", "other"]
theorem scFars : FnScope nFars ["near", "place"] (defScope sFars) := ⟨rfl, rfl, rfl, by decide +kernel, rfl, by decide +kernel, by decide +kernel⟩
/-- what found holds -/
def fvV (n : Nat) (line : List Nat) (g : Nat → Nat) : List V := (List.range n).map fun v => if v ∈ line then V.int (g v : Nat) else .non
def fvD (n : Nat) (line : List Nat) (g : Nat → Nat) : List PyData := (List.range n).map fun v => if v ∈ line then PyData.int (g v : Nat) else .none
theorem fv_da {K : PySem.W.Frag} {H : Hp} (n : Nat) (line : List Nat) (g : Nat → Nat) : DpAll K H (fvV n line g) (fvD n line g) := by
  refine da_of (by unfold fvV fvD; rw [List.length_map, List.length_map]) fun i v d h1 h2 => ?_
  unfold fvV at h1
  unfold fvD at h2
  rw [List.getElem?_map] at h1 h2
  cases hi : (List.range n)[i]? with
  | none => rw [hi] at h1; cases h1
  | some a =>
    rw [hi] at h1 h2
    cases h1
    cases h2
    show Dp K H (if a ∈ line then V.int (g a : Nat) else .non) (if a ∈ line then PyData.int (g a : Nat) else .none)
    by_cases q : a ∈ line
    · rw [if_pos q, if_pos q]; exact .int _
    · rw [if_neg q, if_neg q]; exact .non
theorem fv_at {n : Nat} {line : List Nat} {g : Nat → Nat} {v : Nat} (h : v < n) : (fvD n line g)[v]? = some (if v ∈ line then PyData.int (g v : Nat) else .none) := by
  unfold fvD
  rw [List.getElem?_map, List.getElem?_range h]
  rfl
theorem fv_set {n : Nat} {line : List Nat} {g : Nat → Nat} {v k : Nat} (h : v < n) : (fvV n line g).set v (.int (k : Nat)) = fvV n (line ++ [v]) (addG g v k) := by
  refine List.ext_getElem? fun i => ?_
  unfold fvV
  rw [List.getElem?_set, List.getElem?_map, List.getElem?_map, List.length_map, List.length_range]
  by_cases q : v = i
  · rw [if_pos q, if_pos h, ← q, List.getElem?_range h]
    show some (V.int (k : Nat)) = some (if v ∈ line ++ [v] then V.int (addG g v k v : Nat) else .non)
    rw [if_pos (List.mem_append_right _ (List.mem_singleton.mpr rfl))]
    unfold addG
    rw [if_pos rfl]
  · rw [if_neg q]
    cases hi : (List.range n)[i]? with
    | none => rfl
    | some a =>
      have ha : a = i := by
        obtain ⟨h1, h2⟩ := List.getElem?_eq_some_iff.mp hi
        rw [List.getElem_range] at h2
        exact h2.symm
      show some (if a ∈ line then V.int (g a : Nat) else .non) = some (if a ∈ line ++ [v] then V.int (addG g v k a : Nat) else .non)
      have e1 : addG g v k a = g a := by
        unfold addG
        rw [if_neg (by omega)]
      by_cases m : a ∈ line
      · rw [if_pos m, if_pos (List.mem_append_left _ m), e1]
      · rw [if_neg m, if_neg (fun z => by
          rcases List.mem_append.mp z with z | z
          · exact m z
          · rw [List.mem_singleton] at z
            omega)]
theorem rep_fv (n : Nat) : (List.replicate (n : Int).toNat [V.non]).flatten = fvV n [] (fun _ => 0) := by
  have : (n : Int).toNat = n := by omega
  rw [this]
  unfold fvV
  simp only [List.not_mem_nil, if_false]
  induction n with
  | zero => rfl
  | succ n ih =>
    rw [List.range_succ, List.map_append, ← ih (by omega), List.replicate_succ', List.flatten_append]
    rfl
theorem addG_zero (p : Nat) : addG (fun _ => 0) p 0 = fun _ => 0 := by
  funext x
  unfold addG
  split <;> rfl
section
variable {P : Program} {w : World} {K : PySem.W.Frag} {mg : Str → Option Value} {base : Heap}
structure FarW (W : Web) (H0 : Hp) (fa la : Addr) (g : Nat → Nat) (line : List Nat) (H : Hp) : Prop where
  ex : Ex H0 H
  f : H fa = some (.lst (fvV W.n line g))
  l : H la = some (.lst (line.map fun (u : Nat) => V.int (u : Int)))
theorem ok_fars {f : Addr} {fd : FuncData} (D : Df K mg "fars_by" sFars ["near", "place"] f fd) (T : Bt mg) : Gd P w K mg base "fars_by" ["near", "place"] 1 (spD K rFars) := by
  refine gd_ofD (N := nFars) D scFars (fun ds r ⟨W, p, _, _, e, _⟩ => by rw [e]; rfl) fun cdv A outer s H B vs ds r Q E hr e hd hR q => ?_
  obtain ⟨W, p, ok, hp, rfl, rfl⟩ := hR
  obtain ⟨nv, pv', rfl, hnv, hpv⟩ := da2 hd
  have hpi := Dpi hpv
  subst hpi
  have hle := ok.le
  refine ⟨_, pss_cons (ps_set (i := 2) scFars.nd rfl (.inl rfl) (pe_op op_rep (pe_lst (pa_cons pe_non pa_nil)) (be_len K T.len (pv 0))))
    (pss_cons (ps_asg pe_int (pg_sub (pv 2) (pv 1) set_list))
    (pss_cons (ps_set (i := 3) scFars.nd rfl (.inl rfl) (pe_lst (pa_cons (pv 1) pa_nil)))
    (pss_cons (ps_set (i := 4) scFars.nd rfl (.inl rfl) pe_int)
    (pss_cons (ps_while PassesOwn.never (pt_cmpR op_lt (pv 4) (be_len K T.len (pv 3)) (nomark _))
      (pss_cons (ps_for PassesOwn.never rfl (be_lstI K (be_ixL K (pv 0) (be_ixL K (pv 3) (pv 4)))) (pg_name (i := 5) scFars.nd rfl (.inl rfl))
        (pss_one (ps_if (pt_cmpR op_isN (be_ixL K (pv 2) (pv 5)) pe_non (nomark _))
          (pss_cons (ps_asg (pe_op op_add (be_ixL K (pv 2) (be_ixL K (pv 3) (pv 4))) pe_int) (pg_sub (pv 2) (pv 5) set_list))
            (pss_one (ps_expr (pe_bm PySem.F.plainAttrs_list PySem.F.slot_list_append PySem.F.type_list_append mt_append (pv 3) (pa_cons (pv 5) pa_nil)))))
          pss_nil)))
        (pss_one (ps_set (i := 4) scFars.nd rfl (.inl rfl) (pe_op op_add (pv 4) pe_int)))))
    (pss_one (ps_ret (pv 2))))))), ?_⟩
  -- found = [None] * len(near)
  try dsimp only
  refine sq (as_ ?_)
  refine (ef_lst (K := K) (ea1 ev_non) (by simp)) H e _ fun v B1 H1 g1 d1 => ?_
  refine ((ev_lenL (K := K) (ev_var (B := B) (v := nv) rfl hnv)).up g1.bb) H1 g1.bh _ fun v2 B2 H2 g2 d2 => ?_
  obtain ⟨a0, xs0, rfl, h0, hx0⟩ := d1.up g2.bb
  obtain ⟨x0, rfl, hx0'⟩ := da1 hx0
  have hx0'' := Dpn hx0'
  subst hx0''
  have hlen : ((List.range W.n).map fun v => nD (W.nbr v)).length = W.n := by rw [List.length_map, List.length_range]
  rw [hlen] at d2
  have ex2 : Ex H H2 := g1.hh.trans g2.hh
  refine ⟨a0, (W.n : Int), [.non], rfl, Dpi d2, g2.bh _ _ h0, by omega, by omega, small (by simp only [List.length_singleton]; omega), fun fa hfa => ?_⟩
  rw [rep_fv W.n]
  have hfaH : H fa = none := ex2.free hfa
  -- found[place] = 0
  try dsimp only
  refine sq (s_set (K := K) (B := B) (l := fa) (j := p) ((e.trans ex2).mut (e.free hfaH)) upd_same ev_int (fun H' x => ax_var rfl) (fun H' x => ax_var rfl) (by unfold fvV; rw [List.length_map, List.length_range]; exact hp) fun v3 B3 H3 g3 d3 => ?_)
  rw [Dpi d3, show (fvV W.n [] fun _ => 0).set p (V.int (0 : Int)) = _ from fv_set (k := 0) hp, addG_zero]
  have ex3 : Ex H (upd H3 fa (.lst (fvV W.n ([] ++ [p]) fun _ => 0))) := ((ex2.mut hfaH).trans g3.hh).mut hfaH
  -- line = [place]
  try dsimp only
  refine sq (own_lst (K := K) (i := 3) (e.trans ex3) (ea1 (ev_var rfl (.int _))) (by simp) fun la vs B4 H4 g4 d4 hla => ?_)
  obtain ⟨x4, rfl, hx4⟩ := da1 d4
  rw [Dpi hx4]
  have ex4 : Ex H H4 := ex3.trans g4.hh
  have hlaH : H la = none := ex4.free hla
  have hfl : fa ≠ la := fun z => by
    have := g4.hh fa _ upd_same
    rw [z, hla] at this
    cases this
  -- at = 0
  try dsimp only
  refine sq (s_asg (K := K) (B := B) (i := 4) (d := .int 0) ((e.trans ex4).mut (e.free hlaH)) ev_int fun v5 B5 H5 g5 d5 => ?_)
  rw [Dpi d5]
  -- while at < len(line)
  try dsimp only
  refine sq (while_ (fun m σ H' => ∃ (g : Nat → Nat) (line : List Nat) (at_ : Nat) (x5 : Option V), σ = [some nv, some (.int (p : Int)), some (.ref fa), some (.ref la), some (.int (at_ : Int)), x5] ∧ m = W.n - at_ ∧ at_ ≤ line.length ∧ FarW W H fa la g line H' ∧ Bfs W p g line at_) W.n ?_ ?_)
  · refine ⟨fun _ => 0, [p], 0, none, rfl, by omega, by simp, ⟨(ex4.mut hlaH).trans g5.hh, ?_, ?_⟩, Bfs.start W hp⟩
    · refine g5.hh _ _ ?_
      rw [upd_ne hfl]
      exact g4.hh _ _ upd_same
    · exact g5.hh _ _ upd_same
  · rintro m σ' H' ⟨g, line, at_, x5, rfl, rfl, hat, fw, bf⟩
    have xB : Ex B H' := e.trans fw.ex
    have hlb : B la = none := e.free hlaH
    have hfb : B fa = none := e.free hfaH
    have hl7 := bf.len
    refine ⟨decide ((at_ : Int) < ((line.length : Nat) : Int)), upd B la (.lst (line.map fun (u : Nat) => V.int (u : Int))), xB.at fw.l, et_test (K := K) ?_, fun hb H6 g6 => ?_, fun hb H6 g6 => ?_⟩
    · refine ev_I0b (g := fun i j => decide (i < j)) (ev_var rfl (.int _)) ((ev_lenL (ev_var rfl (.lst (.inl (.inl upd_same)) (da_nats line)))).is ?_)
      rw [List.length_map]
    · have hlt : at_ < line.length := by
        have := of_decide_eq_true hb
        omega
      have hu : line[at_]? = some line[at_] := List.getElem?_eq_getElem hlt
      generalize line[at_] = u at hu
      have hun : u < W.n := bf.lt u (List.mem_of_getElem? hu)
      have fw6 : FarW W H fa la g line H6 := ⟨fw.ex.trans g6.hh, g6.hh _ _ fw.f, g6.hh _ _ fw.l⟩
      have lnV : ∀ (line : List Nat) (k x : Nat), line[k]? = some x → (line.map fun (u : Nat) => V.int (u : Int))[k]? = some (.int (x : Int)) := fun line k x h => by rw [List.getElem?_map, h]; rfl
      refine ⟨fun σ2 H2 => ∃ (g : Nat → Nat) (line : List Nat) (x5 : Option V), σ2 = [some nv, some (.int (p : Int)), some (.ref fa), some (.ref la), some (.int ((at_ + 1 : Nat) : Int)), x5] ∧ at_ + 1 ≤ line.length ∧ FarW W H fa la g line H2 ∧ Bfs W p g line (at_ + 1), ?_, ?_⟩
      · rintro σ2 H2 ⟨g, line, x5, rfl, h1, h2, h3⟩
        exact ⟨W.n - (at_ + 1), by omega, g, line, at_ + 1, x5, rfl, rfl, h1, h2, h3⟩
      -- for other in near[line[at]]
      obtain ⟨nu, hnu, axn⟩ := ax_ixLD (K := K) (B := B) (H := H6) (ta := tVar 0) (tb := tOp (rIxL K) (tVar 3) (tVar 4)) (σ := [some nv, some (.int (p : Int)), some (.ref fa), some (.ref la), some (.int (at_ : Int)), x5]) (i := u) (ax_var rfl) hnv (e.trans fw6.ex) (ax_ixL (ax_var rfl) (ax_var rfl) fw6.l (lnV line at_ u hu)) (near_at hun)
      obtain ⟨na, nxs, rfl, hns, hnd⟩ := Dpl hnu
      have hnx := da_natsV hnd
      subst hnx
      try dsimp only
      refine sq (forLa_ axn ((e.trans fw6.ex).sl hns) ?_)
      refine for_list (xs := (W.nbr u).map fun (u : Nat) => V.int (u : Int)) (fun k σ H' => ∃ (g : Nat → Nat) (line : List Nat) (x5 : Option V), σ = [some nv, some (.int (p : Int)), some (.ref fa), some (.ref la), some (.int (at_ : Int)), x5] ∧ FarW W H fa la g line H' ∧ BfsI W p g line at_ u k) ⟨g, line, x5, rfl, fw6, bf.inner hu⟩ ?_ ?_ ?_
      · rintro k σ H' _ ⟨g, line, x5, rfl, fw, bi⟩
        exact (e.trans fw.ex).sl hns
      · rintro k x σ H' hx ⟨g, line, x5, rfl, fw, bi⟩
        rw [List.getElem?_map] at hx
        cases hk : (W.nbr u)[k]? with
        | none => rw [hk] at hx; cases hx
        | some v =>
          rw [hk] at hx
          cases hx
          have hvn : v < W.n := (ok.adjLt (ok.mem_nbr.mp (List.mem_of_getElem? hk))).2.1
          have xB : Ex B H' := e.trans fw.ex
          -- if found[other] is None
          refine s_if (B := upd B fa (.lst (fvV W.n line g))) (b := decide (v ∉ line)) (xB.at fw.f) (et_test (K := K) (ev_isN (ev_ixL (i := v) (ev_var rfl (.lst (.inl (.inl upd_same)) (fv_da W.n line g))) (ev_var rfl (.int _)) (fv_at hvn)) ?_)) (fun hb H7 g7 => ?_) (fun hb H7 g7 => ?_)
          · by_cases q : v ∈ line
            · rw [if_pos q, decide_eq_false (fun z => z q)] <;> rfl
            · rw [if_neg q, decide_eq_true q] <;> rfl
          · have hv : v ∉ line := of_decide_eq_true hb
            have fw7 : FarW W H fa la g line H7 := ⟨fw.ex.trans g7.hh, g7.hh _ _ fw.f, g7.hh _ _ fw.l⟩
            have xB7 : Ex B H7 := e.trans fw7.ex
            have hum : u ∈ line := List.mem_of_getElem? bi.here
            -- found[other] = found[line[at]] + 1
            try dsimp only
            refine sq (s_set (K := K) (B := upd (upd B fa (.lst (fvV W.n line g))) la (.lst (line.map fun (u : Nat) => V.int (u : Int)))) (l := fa) (j := v) (d := .int ((g u : Int) + 1)) ((xB7.at fw7.f).at fw7.l) fw7.f
              (ev_I0 (g := fun i j => i + j) (ev_ixL (i := u) (ev_var rfl (.lst (.inl (.inl (by rw [upd_ne hfl, upd_same]))) (fv_da W.n line g))) (ev_ixL (i := at_) (ev_var rfl (.lst (.inl (.inl upd_same)) (da_nats line))) (ev_var rfl (.int _)) (by rw [List.getElem?_map, bi.here]; rfl)) (by rw [fv_at hun, if_pos hum])) ev_int)
              (fun H' x => ax_var rfl) (fun H' x => ax_var rfl) (by unfold fvV; rw [List.length_map, List.length_range]; exact hvn) fun v8 B8 H8 g8 d8 => ?_)
            rw [Dpi d8, show (fvV W.n line g).set v (V.int ((g u : Int) + 1)) = _ from fv_set (k := g u + 1) hvn]
            -- line.append(other)
            have ex8 : Ex H (upd H8 fa (.lst (fvV W.n (line ++ [v]) (addG g v (g u + 1))))) := (fw7.ex.trans g8.hh).mut hfaH
            refine s_app (K := K) (B := B) (e.trans ex8) (xs := line.map fun (u : Nat) => V.int (u : Int)) (by rw [upd_ne hfl.symm]; exact g8.hh _ _ fw7.l) (ax_var rfl) (ev_var rfl (.int _)) (by rw [List.length_map]; have := bi.b.len; omega) fun v9 B9 H9 g9 d9 => ?_
            rw [Dpi d9]
            refine ⟨addG g v (g u + 1), line ++ [v], _, rfl, ⟨(ex8.trans g9.hh).mut hlaH, ?_, ?_⟩, bi.new ok hk hv⟩
            · rw [upd_ne hfl]
              exact g9.hh _ _ upd_same
            · rw [upd_same, List.map_append]
              rfl
          · have hv : v ∈ line := by
              by_cases q : v ∈ line
              · exact q
              · exact absurd (decide_eq_true q) (by rw [hb]; decide)
            exact ⟨g, line, _, rfl, ⟨fw.ex.trans g7.hh, g7.hh _ _ fw.f, g7.hh _ _ fw.l⟩, bi.old hk hv⟩
      · rintro σ H' ⟨g, line, x5, rfl, fw, bi⟩
        rw [List.length_map] at bi
        have bn := bi.next ok (Nat.le_refl _)
        have hl := (List.getElem?_eq_some_iff.mp bi.here).1
        -- at = at + 1
        refine s_asg (K := K) (B := B) (d := .int ((at_ : Int) + 1)) (e.trans fw.ex) (ev_I0 (g := fun i j => i + j) (ev_var rfl (.int _)) ev_int) fun v10 B10 H10 g10 d10 => ?_
        rw [Dpi d10]
        exact ⟨g, line, x5, rfl, by omega, ⟨fw.ex.trans g10.hh, g10.hh _ _ fw.f, g10.hh _ _ fw.l⟩, bn⟩
    · have hge : line.length ≤ at_ := by
        have := of_decide_eq_false hb
        omega
      have all := bf.all ok hp hge
      have fw6 : FarW W H fa la g line H6 := ⟨fw.ex.trans g6.hh, g6.hh _ _ fw.f, g6.hh _ _ fw.l⟩
      have gB : Gr B H B H6 := Gr.ext e fw6.ex
      have gO := gB.own hfaH hfb fw6.f
      try dsimp only
      refine rt_ (te := tVar 2) ⟨_, rfl, q _ _ _ gO ?_⟩
      have := Dp.lst (K := K) (H := upd B fa (.lst (fvV W.n line g))) (.inl (.inl upd_same)) (fv_da W.n line g)
      have e2 : fvD W.n line g = (List.range W.n).map fun v => PyData.int (W.D p v : Nat) := by
        unfold fvD
        refine List.map_congr_left fun v hv => ?_
        have ⟨m1, m2⟩ := all v (List.mem_range.mp hv)
        rw [if_pos m1, m2]
      rw [e2] at this
      exact this
end
end Fx
set_option Elab.async false
set_option linter.all false
set_option maxRecDepth 100000
set_option autoImplicit false
namespace Fx
open PySem PySem.Spec PyProof.Rows L2
theorem be_pg2 (K : PySem.W.Frag) {X : Cx} {i j : Nat} {x y : Str} {p q pos : Pos} {k : Nat} (h1 : PG X (.Name x p) (gName i)) (h2 : PG X (.Name y q) (gName j)) (hK : X.K = K := by rfl) (hc : X.calm = true := by rfl)
    (hn : (assignEach [.Name x p, .Name y q] X.env).length = 2 := by rfl) (hst : (assignEach [.Name x p, .Name y q] X.env).findIdx? (·.1) = none := by rfl)
    (hs : (assignEach [.Name x p, .Name y q] X.env).map (·.2) = assign (.Name x p) X.env :: (assignEach [.Name y q] X.env).map (·.2) := by rfl) (hs2 : (assignEach [.Name y q] X.env).map (·.2) = assign (.Name y q) X.env :: (assignEach [] X.env).map (·.2) := by rfl) :
    PG X (.Tuple [.Name x p, .Name y q] k pos) (gTup K 2 (gCons (gName i) (gCons (gName j) gNil))) := by
  subst hK; exact pg_tup hc (pgs_cons h1 (pgs_cons h2 pgs_nil hs2) hs) hn hst
noncomputable def rowsD (W : Web) (L : List Nat) : PyData := .list (L.map fun l => farD W l)
noncomputable def cdsD (W : Web) (L : List Nat) (k : Kd) : PyData := .list ((W.ths k).map fun t => nD (W.cd L t))
def strD : Option Nat → PyData
  | none => .none
  | some m => .int (m : Int)
def oD : Option Nat → PyData
  | none => .none
  | some m => .int (m : Int)
def hdD (h : List (Option Nat)) : PyData := .list (h.map oD)
def Web.Lt (W : Web) (L : List Nat) : Prop := ∀ l, l ∈ L → l < W.n
theorem Web.Lk.all_lt {W : Web} {L : List Nat} (h : W.Lk L) : W.Lt L := fun l hl => h.lt hl
theorem tYes_ {K : PySem.W.Frag} {σ : Sg} {B : Hp} : EvT tYes σ B true := fun H x Q q => q H (Gr.refl x)
/-! ### rising_looks -/
abbrev sRl : Stmt := topS 25
abbrev nRl : List Str := ["web", "looks", "look"]
theorem scRl : FnScope nRl ["web", "looks"] (defScope sRl) := ⟨rfl, rfl, rfl, by decide +kernel, rfl, by decide +kernel, by decide +kernel⟩
abbrev sRa : Stmt := topS 35
theorem scRa : FnScope nRl ["web", "looks"] (defScope sRa) := ⟨rfl, rfl, rfl, by decide +kernel, rfl, by decide +kernel, by decide +kernel⟩
abbrev sCb : Stmt := topS 26
abbrev nCb : List Str := ["rows", "thing", "row"]
theorem scCb : FnScope nCb ["rows", "thing"] (defScope sCb) := ⟨rfl, rfl, rfl, by decide +kernel, rfl, by decide +kernel, by decide +kernel⟩
def rCb (ds : List PyData) (r : PyData) : Prop := ∃ (W : Web) (L : List Nat) (t : Th), W.Ok ∧ W.Lt L ∧ L.length ≤ 1000 ∧ W.isTh t ∧ ds = [rowsD W L, thD t] ∧ r = nD (W.cd L t)
abbrev sCs : Stmt := topS 27
abbrev nCs : List Str := ["web", "looks", "kind", "rows", "look", "thing"]
theorem scCs : FnScope nCs ["web", "looks", "kind"] (defScope sCs) := ⟨rfl, rfl, rfl, by decide +kernel, rfl, by decide +kernel, by decide +kernel⟩
def rCs (ds : List PyData) (r : PyData) : Prop := ∃ (W : Web) (L : List Nat) (k : Kd), W.Ok ∧ W.Lt L ∧ L.length ≤ 1000 ∧ ds = [webD W, nD L, kdD k] ∧ r = cdsD W L k
abbrev sUa : Stmt := topS 28
abbrev nUa : List Str := ["code", "other", "one", "two"]
theorem scUa : FnScope nUa ["code", "other"] (defScope sUa) := ⟨rfl, rfl, rfl, by decide +kernel, rfl, by decide +kernel, by decide +kernel⟩
def rUa (ds : List PyData) (r : PyData) : Prop := ∃ (xs ys : List Nat), xs.length = ys.length ∧ xs.length ≤ 1000 ∧ ds = [nD xs, nD ys] ∧ r = .int (((xs.zip ys).filter fun p => decide (p.1 ≠ p.2)).length : Nat)
abbrev sSo : Stmt := topS 29
abbrev nSo : List Str := ["web", "looks", "kind", "found", "codes", "at", "code", "other", "many"]
theorem scSo : FnScope nSo ["web", "looks", "kind"] (defScope sSo) := ⟨rfl, rfl, rfl, by decide +kernel, rfl, by decide +kernel, by decide +kernel⟩
def rSo (ds : List PyData) (r : PyData) : Prop := ∃ (W : Web) (L : List Nat) (k : Kd), W.Ok ∧ W.Lk L ∧ ds = [webD W, nD L, kdD k] ∧ r = strD (W.str L k)
abbrev sMs : Stmt := topS 30
abbrev nMs : List Str := ["web", "kind"]
theorem scMs : FnScope nMs ["web", "kind"] (defScope sMs) := ⟨rfl, rfl, rfl, by decide +kernel, rfl, by decide +kernel, by decide +kernel⟩
def rMs (ds : List PyData) (r : PyData) : Prop := ∃ (W : Web) (k : Kd), W.Ok ∧ ds = [webD W, kdD k] ∧ r = strD (W.str (List.range W.n) k)
theorem Web.Lk.few {W : Web} {L : List Nat} (h : W.Lk L) (ok : W.Ok) : L.length ≤ 7 := Nat.le_trans h.len ok.le
theorem up_ints {L : List Nat} (h : L.Pairwise (· < ·)) : (L.map fun (u : Nat) => (u : Int)).Pairwise (· < ·) := List.pairwise_map.mpr (h.imp fun {a b} q => by omega)
section
variable {P : Program} {w : World} {K : PySem.W.Frag} {mg : Str → Option Value} {base : Heap}
theorem ok_rl {x : Str} {st : Stmt} {f : Addr} {fd : FuncData} (hx : (x = "rising_looks" ∧ st = sRl) ∨ (x = "rising_asked" ∧ st = sRa)) (D : Df K mg x st ["web", "looks"] f fd) (T : Bt mg) : Gd P w K mg base x ["web", "looks"] 1 (spD K rLa) := by
  rcases hx with ⟨rfl, rfl⟩ | ⟨rfl, rfl⟩
  · refine gd_ofD (N := nRl) D scRl (fun ds r ⟨W, L, _, _, e, _⟩ => by rw [e]; rfl) fun cdv A outer s H B vs ds r Q E hr e hd hR q => ?_
    obtain ⟨W, L, ok, hL, rfl, rfl⟩ := hR
    obtain ⟨wv, lv, rfl, hw, hl⟩ := da2 hd
    have few := hL.few ok
    refine ⟨_, pss_one (ps_if (PW.pt (pw_or (pt_cmpR (op_neD (u64 hr)) (pv 1) (be_sset K T.sorted T.set (pv 1)) (nomark _)) (pw_or1 (pt_not (pt_val (be_all K T.all
      (pe_lc (own := [("look", 2)]) (g := gName 2) (tt := tYes) rfl scRl.nd (be_lstI K (pv 1)) (blkOk_by (N := nRl) (sc := defScope sRl) (by decide +kernel)) (fun _ _ _ _ _ => pg_name (i := 2) scRl.nd rfl (Or.inl rfl)) (fun _ _ _ _ _ => pts_nil)
        (fun _ _ _ _ _ => pe_chain op_le op_lt pe_int (pv 2) (be_ixT K (pv 0) pe_int)))))))))
      pss_never pss_nil), ?_⟩
    refine s_no e ((et_or (a := false) (b := false) (et_test (K := K) ((ev_neD (ev_var rfl hl) (ev_sset (ns := L.map fun (u : Nat) => (u : Int)) ((ev_var rfl hl).is (by unfold nD; rw [ints_map])) (by rw [List.length_map]; omega) (up_ints hL.up)) (by unfold nD; rw [ints_map]; exact shaped_ints _) (shaped_ints _)).is ?_)) fun _ => ?_).is rfl) fun H' x => q .non B H' (Gr.ext e x) .non
    · unfold nD
      rw [ints_map, eqv_ints, decide_eq_true rfl]
      rfl
    · refine (et_not (b := true) (et_B (K := K) ((ev_allL (bs := L.map fun _ => true) ((ef_lcL (K := K) L (fun (u : Nat) => PyData.int (u : Int)) (fun _ => true) (fun _ => .bool true) (ev_var rfl hl) (by omega) (fun _ => rfl) (fun _ _ _ _ _ _ => tYes_ (K := K)) (fun l hlm _ x B' e' hx => ?_)).toD.is ?_)).is ?_))).is rfl
      · refine (ev_chain (f := fun i j => decide (i ≤ j)) (g := fun i j => decide (i < j)) ev_int (ev_var rfl hx) (ev_ixT (i := 0) (ev_var rfl (dm e' hw)) ev_int rfl)).is ?_
        have := hL.lt hlm
        rw [decide_eq_true (by omega), decide_eq_true (by omega)]
        rfl
      · rw [List.filter_eq_self.mpr (fun _ _ => rfl), List.map_map]
        rfl
      · rw [List.all_map]
        exact congrArg PyData.bool (List.all_eq_true.mpr fun _ _ => rfl)
  · refine gd_ofD (N := nRl) D scRa (fun ds r ⟨W, L, _, _, e, _⟩ => by rw [e]; rfl) fun cdv A outer s H B vs ds r Q E hr e hd hR q => ?_
    obtain ⟨W, L, ok, hL, rfl, rfl⟩ := hR
    obtain ⟨wv, lv, rfl, hw, hl⟩ := da2 hd
    have few := hL.few ok
    refine ⟨_, pss_one (ps_if (PW.pt (pw_or (pt_cmpR (op_neD (u64 hr)) (pv 1) (be_sset K T.sorted T.set (pv 1)) (nomark _)) (pw_or1 (pt_not (pt_val (be_all K T.all
      (pe_lc (own := [("look", 2)]) (g := gName 2) (tt := tYes) rfl scRa.nd (be_lstI K (pv 1)) (blkOk_by (N := nRl) (sc := defScope sRa) (by decide +kernel)) (fun _ _ _ _ _ => pg_name (i := 2) scRa.nd rfl (Or.inl rfl)) (fun _ _ _ _ _ => pts_nil)
        (fun _ _ _ _ _ => pe_chain op_le op_lt pe_int (pv 2) (be_ixT K (pv 0) pe_int)))))))))
      pss_never pss_nil), ?_⟩
    refine s_no e ((et_or (a := false) (b := false) (et_test (K := K) ((ev_neD (ev_var rfl hl) (ev_sset (ns := L.map fun (u : Nat) => (u : Int)) ((ev_var rfl hl).is (by unfold nD; rw [ints_map])) (by rw [List.length_map]; omega) (up_ints hL.up)) (by unfold nD; rw [ints_map]; exact shaped_ints _) (shaped_ints _)).is ?_)) fun _ => ?_).is rfl) fun H' x => q .non B H' (Gr.ext e x) .non
    · unfold nD
      rw [ints_map, eqv_ints, decide_eq_true rfl]
      rfl
    · refine (et_not (b := true) (et_B (K := K) ((ev_allL (bs := L.map fun _ => true) ((ef_lcL (K := K) L (fun (u : Nat) => PyData.int (u : Int)) (fun _ => true) (fun _ => .bool true) (ev_var rfl hl) (by omega) (fun _ => rfl) (fun _ _ _ _ _ _ => tYes_ (K := K)) (fun l hlm _ x B' e' hx => ?_)).toD.is ?_)).is ?_))).is rfl
      · refine (ev_chain (f := fun i j => decide (i ≤ j)) (g := fun i j => decide (i < j)) ev_int (ev_var rfl hx) (ev_ixT (i := 0) (ev_var rfl (dm e' hw)) ev_int rfl)).is ?_
        have := hL.lt hlm
        rw [decide_eq_true (by omega), decide_eq_true (by omega)]
        rfl
      · rw [List.filter_eq_self.mpr (fun _ _ => rfl), List.map_map]
        rfl
      · rw [List.all_map]
        exact congrArg PyData.bool (List.all_eq_true.mpr fun _ _ => rfl)
theorem ok_cb {f : Addr} {fd : FuncData} (D : Df K mg "code_by" sCb ["rows", "thing"] f fd) (T : Bt mg) : Gd P w K mg base "code_by" ["rows", "thing"] 1 (spD K rCb) := by
  refine gd_ofD (N := nCb) D scCb (fun ds r ⟨W, L, t, _, _, _, _, e, _⟩ => by rw [e]; rfl) fun cdv A outer s H B vs ds r Q E hr e hd hR q => ?_
  obtain ⟨W, L, t, ok, hL, few, ht, rfl, rfl⟩ := hR
  obtain ⟨rv, tv, rfl, hrv, htv⟩ := da2 hd
  refine ⟨_, pss_cons (ps_if (pt_val (be_isi K T.isi T.tuple PyProof.Rows.boot_tuple (pv 1)))
      (pss_one (ps_ret (pe_lc (own := [("row", 2)]) (g := gName 2) (tt := tYes) rfl scCb.nd (be_lstI K (pv 0)) (blkOk_by (N := nCb) (sc := defScope sCb) (by decide +kernel)) (fun _ _ _ _ _ => pg_name (i := 2) scCb.nd rfl (Or.inl rfl)) (fun _ _ _ _ _ => pts_nil)
        (fun _ _ _ _ _ => be_min2 T.min (be_ixL K (pv 2) (be_ixT K (pv 1) pe_int)) (be_ixL K (pv 2) (be_ixT K (pv 1) pe_int)))))) pss_nil)
    (pss_one (ps_ret (pe_lc (own := [("row", 2)]) (g := gName 2) (tt := tYes) rfl scCb.nd (be_lstI K (pv 0)) (blkOk_by (N := nCb) (sc := defScope sCb) (by decide +kernel)) (fun _ _ _ _ _ => pg_name (i := 2) scCb.nd rfl (Or.inl rfl)) (fun _ _ _ _ _ => pts_nil)
        (fun _ _ _ _ _ => be_ixL K (pv 2) (pv 1))))), ?_⟩
  have fin : ((L.filter fun _ => true).map fun l => PyData.int (W.dT l t : Nat)) = (W.cd L t).map fun (u : Nat) => PyData.int (u : Int) := by
    rw [List.filter_eq_self.mpr (fun _ _ => rfl)]
    unfold Web.cd
    rw [List.map_map]
    rfl
  cases t with
  | pl v =>
    refine q_if (b := false) e (et_B (K := K) (ev_isi (t := "int") (ev_var rfl htv) (fun H v h => tyD_int h) (by decide +kernel))) (fun z => nomatch z) (fun _ H1 g1 => ?_)
    refine s_ret (K := K) (B := B) g1.bh (ef_lcL (K := K) L (fun l => farD W l) (fun _ => true) (fun l => .int (W.dT l (.pl v) : Nat)) (ev_var rfl hrv) (by omega) (fun _ => rfl) (fun _ _ _ _ _ _ => tYes_ (K := K)) (fun l hlm _ x B' e' hx => ev_ixL (i := v) (ev_var rfl hx) (ev_var rfl (dm e' htv)) (far_at ht))).toD fun v B2 H2 g2 d2 => q v B2 H2 (g1.trans g2) ?_
    rw [fin] at d2
    exact d2
  | ti a b =>
    have lt := ok.lt _ ht
    simp only at lt
    refine q_if (b := true) e (et_B (K := K) (ev_isi (t := "tuple") (ev_var rfl htv) (fun H v h => tyD_tup h) (by decide +kernel))) (fun _ H1 g1 => ?_) (fun z => nomatch z)
    refine s_ret (K := K) (B := B) g1.bh (ef_lcL (K := K) L (fun l => farD W l) (fun _ => true) (fun l => .int (W.dT l (.ti a b) : Nat)) (ev_var rfl hrv) (by omega) (fun _ => rfl) (fun _ _ _ _ _ _ => tYes_ (K := K)) (fun l hlm _ x B' e' hx => ?_)).toD fun v B2 H2 g2 d2 => q v B2 H2 (g1.trans g2) ?_
    · refine (ev_min2 (i := (W.D l a : Nat)) (j := (W.D l b : Nat)) (ev_ixL (i := a) (ev_var rfl hx) (ev_ixT (i := 0) (ev_var rfl (dm e' htv)) ev_int rfl) (far_at (by omega))) (ev_ixL (i := b) (ev_var rfl hx) (ev_ixT (i := 1) (ev_var rfl (dm e' htv)) ev_int rfl) (far_at lt.2))).is ?_
      have e2 : ((W.dT l (.ti a b) : Nat) : Int) = min (W.D l a : Int) (W.D l b : Int) := by
        show ((min (W.D l a) (W.D l b) : Nat) : Int) = _
        omega
      rw [e2]
    · rw [fin] at d2
      exact d2
theorem ok_cs {f : Addr} {fd : FuncData} (D : Df K mg "codes_by" sCs ["web", "looks", "kind"] f fd) (T : Bt mg) (G1 : Gd P w K mg base "fars_from" ["web", "place"] 2 (spD K rFf)) (G2 : Gd P w K mg base "code_by" ["rows", "thing"] 1 (spD K rCb)) (G3 : Gd P w K mg base "things_of" ["web", "kind"] 1 (spD K rThs)) : Gd P w K mg base "codes_by" ["web", "looks", "kind"] 3 (spD K rCs) := by
  refine gd_ofD (N := nCs) D scCs (fun ds r ⟨W, L, k, _, _, _, e, _⟩ => by rw [e]; rfl) fun cdv A outer s H B vs ds r Q E hr e hd hR q => ?_
  obtain ⟨W, L, k, ok, hL, few, rfl, rfl⟩ := hR
  obtain ⟨wv, lv, kv, rfl, hw, hl, hk⟩ := da3 hd
  have hle := ok.le
  have hfw := ok.few
  refine ⟨_, pss_cons (ps_set (i := 3) scCs.nd rfl (.inr rfl) (pe_lc (own := [("look", 4)]) (g := gName 4) (tt := tYes) rfl scCs.nd (be_lstI K (pv 1)) (blkOk_by (N := nCs) (sc := defScope sCs) (by decide +kernel)) (fun _ _ _ _ _ => pg_name (i := 4) scCs.nd rfl (Or.inl rfl)) (fun _ _ _ _ _ => pts_nil)
        (fun _ _ _ _ _ => pe_fn G1 hr (pa_cons (pv 0) (pa_cons (pv 4) pa_nil)))))
    (pss_one (ps_ret (pe_lc (own := [("thing", 5)]) (g := gName 5) (tt := tYes) rfl scCs.nd (be_lstI K (pe_fn G3 hr (pa_cons (pv 0) (pa_cons (pv 2) pa_nil)))) (blkOk_by (N := nCs) (sc := defScope sCs) (by decide +kernel)) (fun _ _ _ _ _ => pg_name (i := 5) scCs.nd rfl (Or.inl rfl)) (fun _ _ _ _ _ => pts_nil)
        (fun _ _ _ _ _ => pe_fn G2 hr (pa_cons (pv 3) (pa_cons (pv 5) pa_nil)))))), ?_⟩
  refine q_asg (K := K) (d := rowsD W L) e ((ef_lcL (K := K) L (fun (u : Nat) => PyData.int (u : Int)) (fun _ => true) (fun l => farD W l) (ev_var rfl hl) (by omega) (fun _ => rfl) (fun _ _ _ _ _ _ => tYes_ (K := K)) (fun l hlm _ x B' e' hx => ev_call (ea2 (ev_var rfl (dm e' hw)) (ev_var rfl hx)) ⟨W, l, ok, hL l hlm, rfl, rfl⟩)).toD.is (by rw [List.filter_eq_self.mpr (fun _ _ => rfl)]; rfl)) fun v B1 H1 g1 d1 => ?_
  have hlen : (W.ths k).length ≤ 40000 := by
    cases k with
    | places => show ((List.range W.n).map Th.pl).length ≤ _; rw [List.length_map, List.length_range]; omega
    | ties => show (W.es.map _).length ≤ _; rw [List.length_map]; omega
    | all => show ((List.range W.n).map Th.pl ++ W.es.map _).length ≤ _; rw [List.length_append, List.length_map, List.length_map, List.length_range]; omega
  refine s_ret (K := K) g1.bh (ef_lcL (K := K) (W.ths k) thD (fun _ => true) (fun t => nD (W.cd L t)) (ev_call (ea2 (ev_var rfl (dm g1.bb hw)) (ev_var rfl (dm g1.bb hk))) ⟨W, k, ok, rfl, rfl⟩) hlen (fun _ => rfl) (fun _ _ _ _ _ _ => tYes_ (K := K)) (fun t htm _ x B' e' hx => ev_call (ea2 (ev_var rfl (dm e' d1)) (ev_var rfl hx)) ⟨W, L, t, ok, hL, few, Web.isTh_of htm, rfl, rfl⟩)).toD fun v B2 H2 g2 d2 => q v B2 H2 (g1.trans g2) ?_
  rw [List.filter_eq_self.mpr (fun _ _ => rfl)] at d2
  exact d2
theorem ok_ua {f : Addr} {fd : FuncData} (D : Df K mg "unlike_at" sUa ["code", "other"] f fd) (T : Bt mg) : Gd P w K mg base "unlike_at" ["code", "other"] 1 (spD K rUa) := by
  refine gd_ofD (N := nUa) D scUa (fun ds r ⟨xs, ys, _, _, e, _⟩ => by rw [e]; rfl) fun cdv A outer s H B vs ds r Q E hr e hd hR q => ?_
  obtain ⟨xs, ys, hl, few, rfl, rfl⟩ := hR
  obtain ⟨av, bv, rfl, ha, hb⟩ := da2 hd
  refine ⟨_, pss_one (ps_ret (be_len K T.len (pe_lc (own := [("one", 2), ("two", 3)]) rfl scUa.nd (pi_zip (by rfl) T.zip (pa_cons (pv 0) (pa_cons (pv 1) pa_nil))) (blkOk_by (N := nUa) (sc := defScope sUa) (by decide +kernel))
      (fun _ _ _ _ _ => be_pg2 K (pg_name (i := 2) scUa.nd rfl (Or.inl rfl)) (pg_name (i := 3) scUa.nd rfl (Or.inl rfl)))
      (fun _ _ _ _ _ => pts_one (pt_cmpR op_ne (pv 2) (pv 3) (nomark _))) (fun _ _ _ _ _ => pv 2)))), ?_⟩
  have e1 : ((xs.zip ys).map fun p => PyData.int (p.1 : Int)) = xs.map fun (u : Nat) => PyData.int (u : Int) := by
    conv => rhs; rw [← List.map_fst_zip (l₁ := xs) (l₂ := ys) (by omega)]
    rw [List.map_map]
    rfl
  have e2 : ((xs.zip ys).map fun p => PyData.int (p.2 : Int)) = ys.map fun (u : Nat) => PyData.int (u : Int) := by
    conv => rhs; rw [← List.map_snd_zip (l₁ := xs) (l₂ := ys) (by omega)]
    rw [List.map_map]
    rfl
  refine s_ret (K := K) e ((ev_lenL (ef_lcZ (K := K) (xs.zip ys) (fun p => .int (p.1 : Int)) (fun p => .int (p.2 : Int)) (fun p => decide (p.1 ≠ p.2)) (fun p => .int (p.1 : Int)) (ea2 ((ev_var rfl ha).is (by rw [e1]; rfl)) ((ev_var rfl hb).is (by rw [e2]; rfl))) (by rw [List.length_zip]; omega) (fun _ _ => rfl)
    (fun p hp x y B' e' hx hy => (et_test (K := K) (ev_neI (ev_var rfl hx) (ev_var rfl hy))).is ?_) (fun p hp _ x y B' e' hx hy => ev_var rfl hx)).toD).is (by rw [List.length_map])) fun v B2 H2 g2 d2 => q v B2 H2 g2 d2
  rw [← decide_not]
  exact decide_eq_decide.mpr ⟨fun h z => h (by rw [z]), fun h z => h (by omega)⟩
end
end Fx
set_option Elab.async false
set_option linter.all false
set_option maxRecDepth 100000
set_option autoImplicit false
namespace Fx
open PySem PySem.Spec PyProof.Rows L2
def strV : Option Nat → V
  | none => .non
  | some m => .int (m : Int)
theorem str_dp {K : PySem.W.Frag} {H : Hp} (o : Option Nat) : Dp K H (strV o) (strD o) := by
  cases o with
  | none => exact .non
  | some m => exact .int _
theorem cd_len (W : Web) (L : List Nat) (t : Th) : (W.cd L t).length = L.length := List.length_map ..
theorem ths_at {W : Web} {k : Kd} {i : Nat} {t : Th} (h : (W.ths k)[i]? = some t) : t = W.thA k i ∧ i < (W.ths k).length := by
  have hi := (List.getElem?_eq_some_iff.mp h).1
  have := (Web.thA_mem hi).1
  rw [h] at this
  exact ⟨Option.some.inj this, hi⟩
section
variable {K : PySem.W.Frag} {σ : Sg} {B H : Hp} {ta te : TE} {D : Ends}
/-- xs.append(e), e's value told -/
theorem s_appA {l : Addr} {xs : List V} {v : V} (hl : H l = some (.lst xs)) (ha : Ax ta σ H (.ref l)) (h : Ax te σ H v) (hz : xs.length < 100000) (k : D.nx σ (upd H l (.lst (xs ++ [v])))) :
    tDrop (tBM K "list" rAppend ta (tCons te tNil)) D σ H := ha _ ⟨.inl ⟨rfl, xs, .inl (.inl hl)⟩, h _ ⟨l, xs, v, rfl, rfl, hl, smallt hz, k⟩⟩
end
/-! ### which things fit -/
noncomputable def Web.wr (W : Web) (L : List Nat) (h : List (Option Nat)) (t : Th) : List (Nat × Option Nat) := ((W.cd L t).zip h).filter fun p => p.2 != none && decide (p.2 ≠ some p.1)
noncomputable def Web.fit (W : Web) (L : List Nat) (h : List (Option Nat)) (lies : Nat) (t : Th) : Bool := decide ((W.wr L h t).length ≤ lies)
noncomputable def fitD (W : Web) (L : List Nat) (k : Kd) (h : List (Option Nat)) (lies : Nat) : PyData := .list (((W.ths k).filter (W.fit L h lies)).map thD)
abbrev sFt : Stmt := topS 31
abbrev nFt : List Str := ["web", "looks", "kind", "heard", "lies", "found", "thing", "code", "wrong", "one", "told"]
theorem scFt : FnScope nFt ["web", "looks", "kind", "heard", "lies"] (defScope sFt) := ⟨rfl, rfl, rfl, by decide +kernel, rfl, by decide +kernel, by decide +kernel⟩
def rFt (ds : List PyData) (r : PyData) : Prop := ∃ (W : Web) (L : List Nat) (k : Kd) (h : List (Option Nat)) (lies : Nat), W.Ok ∧ W.Lk L ∧ h.length = L.length ∧ ds = [webD W, nD L, kdD k, hdD h, .int (lies : Int)] ∧ r = fitD W L k h lies
theorem ths_len {W : Web} (ok : W.Ok) (k : Kd) : (W.ths k).length ≤ 100 := by
  have hle := ok.le
  have hfw := ok.few
  cases k with
  | places => show ((List.range W.n).map Th.pl).length ≤ _; rw [List.length_map, List.length_range]; omega
  | ties => show (W.es.map _).length ≤ _; rw [List.length_map]; omega
  | all => show ((List.range W.n).map Th.pl ++ W.es.map _).length ≤ _; rw [List.length_append, List.length_map, List.length_map, List.length_range]; omega
section
variable {P : Program} {w : World} {K : PySem.W.Frag} {mg : Str → Option Value} {base : Heap}
theorem ok_so {f : Addr} {fd : FuncData} (D : Df K mg "strength_of" sSo ["web", "looks", "kind"] f fd) (T : Bt mg) (G1 : Gd P w K mg base "rising_looks" ["web", "looks"] 1 (spD K rLa)) (G2 : Gd P w K mg base "codes_by" ["web", "looks", "kind"] 3 (spD K rCs)) (G3 : Gd P w K mg base "unlike_at" ["code", "other"] 1 (spD K rUa)) :
    Gd P w K mg base "strength_of" ["web", "looks", "kind"] 4 (spD K rSo) := by
  refine gd_ofD (N := nSo) D scSo (fun ds r ⟨W, L, k, _, _, e, _⟩ => by rw [e]; rfl) fun cdv A outer s H B vs ds r Q E hr e hd hR q => ?_
  obtain ⟨W, L, k, ok, hL, rfl, rfl⟩ := hR
  obtain ⟨wv, lv, kv, rfl, hw, hl, hk⟩ := da3 hd
  have few := hL.few ok
  refine ⟨_, pss_cons (ps_expr (pe_fn G1 hr (pa_cons (pv 0) (pa_cons (pv 1) pa_nil))))
    (pss_cons (ps_set (i := 3) scSo.nd rfl (.inl rfl) pe_non)
    (pss_cons (ps_set (i := 4) scSo.nd rfl (.inl rfl) (pe_fn G2 hr (pa_cons (pv 0) (pa_cons (pv 1) (pa_cons (pv 2) pa_nil)))))
    (pss_cons (ps_for PassesOwn.never rfl (pi_enum (by rfl) T.enum (pa_cons (pv 4) pa_nil)) (pg_tup rfl (pgs_cons (pg_name (i := 5) scSo.nd rfl (.inl rfl)) (pgs_cons (pg_name (i := 6) scSo.nd rfl (.inl rfl)) pgs_nil)))
      (pss_one (ps_for PassesOwn.never rfl (pi_list (pe_slice sl_list (pv 4) po_none (po_some (pv 5)))) (pg_name (i := 7) scSo.nd rfl (.inl rfl))
        (pss_cons (ps_set (i := 8) scSo.nd rfl (.inl rfl) (pe_fn G3 hr (pa_cons (pv 6) (pa_cons (pv 7) pa_nil))))
        (pss_one (ps_if (PW.pt (pw_or (pt_cmpR op_isN (pv 3) pe_non (nomark _)) (pw_or1 (pt_cmpR op_lt (pv 8) (pv 3) (nomark _))))) (pss_one (ps_set (i := 3) scSo.nd rfl (.inl rfl) (pv 8))) pss_nil))))))
    (pss_one (ps_ret (pv 3)))))), ?_⟩
  refine q_drop (K := K) e (ev_call (ea2 (ev_var rfl hw) (ev_var rfl hl)) ⟨W, L, ok, hL, rfl, rfl⟩) fun v B1 H1 g1 d1 => ?_
  refine q_asg (K := K) (B := B) (e.trans g1.hh) ev_non fun v2 B2 H2 g2 d2 => ?_
  rw [Dpn d2]
  refine q_asg (K := K) (B := B) ((e.trans g1.hh).trans g2.hh) (ev_call (ea3 (ev_var rfl hw) (ev_var rfl hl) (ev_var rfl hk)) ⟨W, L, k, ok, hL.all_lt, by omega, rfl, rfl⟩) fun cv B3 H3 g3 hcv => ?_
  have eH3 : Ex H H3 := (g1.hh.trans g2.hh).trans g3.hh
  refine sq (forE_ (K := K) (ea1 (ev_var rfl hcv)) g3.bh fun a xs B4 H4 g4 hs hda => ?_)
  have hlen := da_len hda
  rw [List.length_map] at hlen
  have hcv4 := dm g4.bb hcv
  refine for_enum (xs := xs) (fun i σ H' => ∃ x5 x6 x7 x8, σ = [some wv, some lv, some kv, some (strV (mn (W.vals L k i))), some cv, x5, x6, x7, x8] ∧ Ex H4 H') ⟨none, none, none, none, rfl, Ex.refl _⟩ ?_ ?_ ?_
  · rintro i σ H' _ ⟨x5, x6, x7, x8, rfl, x⟩
    exact (g4.bh.trans x).sl hs
  · rintro i y U σ H' hy ⟨x5, x6, x7, x8, rfl, x⟩ hU
    obtain ⟨dy, hdy1, hdy2⟩ := da_getV hda hy
    rw [List.getElem?_map] at hdy1
    cases hti : (W.ths k)[i]? with
    | none => rw [hti] at hdy1; cases hdy1
    | some ti =>
      rw [hti] at hdy1
      cases hdy1
      have ⟨eti, hil⟩ := ths_at hti
      refine ⟨U, _, rfl, .inl (.inl upd_same), rfl, _, _, rfl, _, _, rfl, rfl, ?_⟩
      have xU : Ex B4 (upd H' U (.tup [.int (i : Nat), y])) := (g4.bh.trans x).trans (Ex.new hU)
      refine forL_ (K := K) (ef_sl (lo := none) (hi := some (i : Int)) (ev_var rfl hcv4) eo_none (eo_some (K := K) (ev_var rfl (.int _)))).toD xU fun a2 ys B5 H5 g5 hs5 hd5 => ?_
      rw [cutD_to] at hd5
      have hlen5 := da_len hd5
      rw [List.length_take, List.length_map] at hlen5
      refine for_list (xs := ys) (fun j σ H' => ∃ x7 x8, σ = [some wv, some lv, some kv, some (strV (mn (W.vals L k i ++ W.vals1 L k i j))), some cv, some (.int (i : Int)), some y, x7, x8] ∧ Ex H5 H') ?_ ?_ ?_ ?_
      · exact ⟨x7, x8, by rw [show W.vals1 L k i 0 = [] from rfl, List.append_nil] <;> rfl, Ex.refl _⟩
      · rintro j σ H' _ ⟨x7, x8, rfl, x5⟩
        exact (g5.bh.trans x5).sl hs5
      · rintro j z σ H' hz ⟨x7, x8, rfl, x5⟩
        obtain ⟨dz, hdz1, hdz2⟩ := da_getV hd5 hz
        have hji : j < i := by
          have := (List.getElem?_eq_some_iff.mp hz).1
          omega
        rw [List.getElem?_take, if_pos hji, List.getElem?_map] at hdz1
        cases htj : (W.ths k)[j]? with
        | none => rw [htj] at hdz1; cases hdz1
        | some tj =>
          rw [htj] at hdz1
          cases hdz1
          have ⟨etj, hjl⟩ := ths_at htj
          have xB : Ex B5 H' := g5.bh.trans x5
          -- many = unlike_at(code, other)
          refine q_asg (K := K) (B := B5) (d := .int (W.np L ti tj : Nat)) xB ((ev_call (ea2 (ev_var rfl (dm g5.bb hdy2)) (ev_var rfl hdz2)) ⟨_, _, by rw [cd_len, cd_len], by rw [cd_len]; omega, rfl, rfl⟩).is (by rw [W.np_zip])) fun v6 B6 H6 g6 d6 => ?_
          rw [Dpi d6]
          have eacc : mn (W.vals L k i ++ W.vals1 L k i (j + 1)) = mnS (mn (W.vals L k i ++ W.vals1 L k i j)) (W.np L ti tj) := by
            rw [Web.vals1_succ, ← List.append_assoc, mn_snoc, eti, etj]
          generalize mn (W.vals L k i ++ W.vals1 L k i j) = acc at eacc ⊢
          cases acc with
          | none =>
            refine s_if (B := B5) (b := true) (xB.trans g6.hh) ((et_or (a := true) (b := true) (et_test (K := K) (ev_isN (ev_var rfl (str_dp none)) rfl)) (fun z => nomatch z)).is rfl) (fun _ H7 g7 => ?_) (fun z => nomatch z)
            refine as_ ⟨_, rfl, some z, some (.int (W.np L ti tj : Nat)), ?_, (x5.trans g6.hh).trans g7.hh⟩
            rw [eacc]
            rfl
          | some m =>
            refine s_if (B := B5) (b := decide ((W.np L ti tj : Int) < (m : Int))) (xB.trans g6.hh) ((et_or (a := false) (b := decide ((W.np L ti tj : Int) < (m : Int))) (et_test (K := K) (ev_isN (ev_var rfl (str_dp (some m))) rfl)) (fun _ => et_test (K := K) (ev_I0b (g := fun i j => decide (i < j)) (ev_var rfl (.int _)) (ev_var rfl (str_dp (some m)))))).is (Bool.false_or _)) (fun hb H7 g7 => ?_) (fun hb H7 g7 => ?_)
            · refine as_ ⟨_, rfl, some z, some (.int (W.np L ti tj : Nat)), ?_, (x5.trans g6.hh).trans g7.hh⟩
              have := of_decide_eq_true hb
              rw [eacc, show mnS (some m) (W.np L ti tj) = some (W.np L ti tj) from if_pos (by omega)]
              rfl
            · refine ⟨some z, some (.int (W.np L ti tj : Nat)), ?_, (x5.trans g6.hh).trans g7.hh⟩
              have := of_decide_eq_false hb
              rw [eacc, show mnS (some m) (W.np L ti tj) = some m from if_neg (by omega)]
              rfl
      · rintro σ H' ⟨x7, x8, rfl, x5⟩
        refine ⟨some (.int (i : Int)), some y, x7, x8, ?_, ((x.trans (Ex.new hU)).trans g5.hh).trans x5⟩
        rw [Web.vals_succ, show ys.length = i by omega]
  · rintro σ H' ⟨x5, x6, x7, x8, rfl, x⟩
    try dsimp only
    refine rt_ (te := tVar 3) ⟨_, rfl, q _ B H' (Gr.ext e ((eH3.trans g4.hh).trans x)) ?_⟩
    rw [hlen]
    exact str_dp _
theorem ok_ms {f : Addr} {fd : FuncData} (D : Df K mg "most_strength" sMs ["web", "kind"] f fd) (T : Bt mg) (G : Gd P w K mg base "strength_of" ["web", "looks", "kind"] 4 (spD K rSo)) : Gd P w K mg base "most_strength" ["web", "kind"] 5 (spD K rMs) := by
  refine gd_ofD (N := nMs) D scMs (fun ds r ⟨W, k, _, e, _⟩ => by rw [e]; rfl) fun cdv A outer s H B vs ds r Q E hr e hd hR q => ?_
  obtain ⟨W, k, ok, rfl, rfl⟩ := hR
  obtain ⟨wv, kv, rfl, hw, hk⟩ := da2 hd
  have hle := ok.le
  refine ⟨_, pss_one (ps_ret (pe_fn G hr (pa_cons (pv 0) (pa_cons (pe_listRg rfl (by rfl) T.list (prg_1 (by rfl) T.rng (be_ixT K (pv 0) pe_int))) (pa_cons (pv 1) pa_nil))))), ?_⟩
  exact s_ret (K := K) e (ev_call (ea3 (ev_var rfl hw) (ef_lstRg (ev_ixT (i := 0) (ev_var rfl hw) ev_int rfl) (by omega)).toD (ev_var rfl hk)) ⟨W, List.range W.n, k, ok, Web.Lk.all, rfl, rfl⟩) fun v B1 H1 g1 d1 => q v B1 H1 g1 d1
theorem ok_ft {f : Addr} {fd : FuncData} (D : Df K mg "fitting_things" sFt ["web", "looks", "kind", "heard", "lies"] f fd) (T : Bt mg) (G1 : Gd P w K mg base "rising_looks" ["web", "looks"] 1 (spD K rLa)) (G2 : Gd P w K mg base "codes_by" ["web", "looks", "kind"] 3 (spD K rCs)) (G3 : Gd P w K mg base "things_of" ["web", "kind"] 1 (spD K rThs)) :
    Gd P w K mg base "fitting_things" ["web", "looks", "kind", "heard", "lies"] 4 (spD K rFt) := by
  refine gd_ofD (N := nFt) D scFt (fun ds r ⟨W, L, k, h, lies, _, _, _, e, _⟩ => by rw [e]; rfl) fun cdv A outer s H B vs ds r Q E hr e hd hR q => ?_
  obtain ⟨W, L, k, h, lies, ok, hL, hlh, rfl, rfl⟩ := hR
  obtain ⟨wv, lv, kv, hv, yv, rfl, hw, hl, hk, hhv, hyv⟩ := da5 hd
  have few := hL.few ok
  have tlen := ths_len ok k
  refine ⟨_, pss_cons (ps_expr (pe_fn G1 hr (pa_cons (pv 0) (pa_cons (pv 1) pa_nil))))
    (pss_cons (ps_if (pt_cmpR op_ne (be_len K T.len (pv 3)) (be_len K T.len (pv 1)) (nomark _)) pss_never pss_nil)
    (pss_cons (ps_set (i := 5) scFt.nd rfl (.inl rfl) (pe_lst pa_nil))
    (pss_cons (ps_for PassesOwn.never rfl (pi_zip (by rfl) T.zip (pa_cons (pe_fn G3 hr (pa_cons (pv 0) (pa_cons (pv 2) pa_nil))) (pa_cons (pe_fn G2 hr (pa_cons (pv 0) (pa_cons (pv 1) (pa_cons (pv 2) pa_nil)))) pa_nil)))
      (pg_tup rfl (pgs_cons (pg_name (i := 6) scFt.nd rfl (.inl rfl)) (pgs_cons (pg_name (i := 7) scFt.nd rfl (.inl rfl)) pgs_nil)))
      (pss_cons (ps_setLc (i := 8) (own := [("one", 9), ("told", 10)]) rfl scFt.nd rfl rfl (sw_true rfl rfl rfl (by decide +kernel)) (pi_zip (by rfl) T.zip (pa_cons (pv 7) (pa_cons (pv 3) pa_nil))) (blkOk_by (N := nFt) (sc := defScope sFt) (by decide +kernel))
          (fun _ _ _ _ _ => be_pg2 K (pg_name (i := 9) scFt.nd rfl (Or.inl rfl)) (pg_name (i := 10) scFt.nd rfl (Or.inl rfl)))
          (fun _ _ _ _ _ => pts_one (PW.pt (pw_and (pt_cmpR op_notN (pv 10) pe_non (nomark _)) (pw_and1 (pt_cmpR op_ne (pv 10) (pv 9) (nomark _)))))) (fun _ _ _ _ _ => pv 9))
        (pss_one (ps_if (pt_cmpR op_le (be_len K T.len (pv 8)) (pv 4) (nomark _)) (pss_one (ps_expr (pe_bm PySem.F.plainAttrs_list PySem.F.slot_list_append PySem.F.type_list_append mt_append (pv 5) (pa_cons (pv 6) pa_nil)))) pss_nil))))
    (pss_one (ps_ret (pv 5)))))), ?_⟩
  refine q_drop (K := K) e (ev_call (ea2 (ev_var rfl hw) (ev_var rfl hl)) ⟨W, L, ok, hL, rfl, rfl⟩) fun v B1 H1 g1 d1 => ?_
  refine sq (s_no (B := B) (e.trans g1.hh) (et_test (K := K) ((ev_neI (ev_lenL (ev_var rfl hhv)) (ev_lenL (ev_var rfl hl))).is ?_)) fun H2 x2 => ?_)
  · rw [List.length_map, List.length_map, hlh, decide_eq_true rfl]
    rfl
  have eH2 : Ex H H2 := g1.hh.trans x2
  try dsimp only
  refine sq (own_lst (K := K) (i := 5) (B := B) (e.trans eH2) ea_nil (by simp) fun fl vs0 B3 H3 g3 d3 hfl => ?_)
  cases d3
  have eH3 : Ex H H3 := eH2.trans g3.hh
  have hflH : H fl = none := eH3.free hfl
  have hflB : B fl = none := e.free hflH
  try dsimp only
  refine sq (forZ_ (K := K) (B := B) (ea2 (ev_call (ea2 (ev_var rfl hw) (ev_var rfl hk)) ⟨W, k, ok, rfl, rfl⟩) (ev_call (ea3 (ev_var rfl hw) (ev_var rfl hl) (ev_var rfl hk)) ⟨W, L, k, ok, hL.all_lt, by omega, rfl, rfl⟩)) ((e.trans eH3).mut hflB) fun a b xs ys B4 H4 g4 hs hda hs2 hda2 => ?_)
  have l1 := da_len hda
  have l2 := da_len hda2
  rw [List.length_map] at l1 l2
  have hfl4 : B4 fl = none := g4.off hflB (by rw [upd_same]; exact fun z => nomatch z)
  have eH4 : Ex H H4 := (eH3.mut hflH).trans g4.hh
  refine RZ.for_zipL (K := K) (a := a) (b := b) (xs := xs) (ys := ys) (by omega) (fun i σ H' => ∃ x6 x7 x8 acc, σ = [some wv, some lv, some kv, some hv, some yv, some (.ref fl), x6, x7, x8, none, none] ∧ Ex H H' ∧ Ex B4 H' ∧ H' fl = some (.lst acc) ∧ DpAll K B4 acc ((((W.ths k).take i).filter (W.fit L h lies)).map thD)) ?_ ?_ ?_ ?_
  · exact ⟨none, none, none, [], rfl, eH4, g4.bh, g4.hh _ _ upd_same, .nil⟩
  · rintro i σ H' ⟨x6, x7, x8, acc, rfl, x, xb, hf, hacc⟩
    exact ⟨xb.sl hs, xb.sl hs2⟩
  · rintro i tv cv U σ H' hx hy ⟨x6, x7, x8, acc, rfl, x, xb, hf, hacc⟩ hU
    obtain ⟨dx, hdx1, hdx2⟩ := da_getV hda hx
    obtain ⟨dy, hdy1, hdy2⟩ := da_getV hda2 hy
    rw [List.getElem?_map] at hdx1 hdy1
    cases hti : (W.ths k)[i]? with
    | none => rw [hti] at hdx1; cases hdx1
    | some t =>
      rw [hti] at hdx1 hdy1
      cases hdx1
      cases hdy1
      refine ⟨U, _, rfl, .inl (.inl upd_same), rfl, _, _, rfl, _, _, rfl, rfl, ?_⟩
      have xbU : Ex B4 (upd H' U (.tup [tv, cv])) := xb.trans (Ex.new hU)
      have hfU : (upd H' U (.tup [tv, cv])) fl = some (.lst acc) := (Ex.new hU) _ _ hf
      have hB4 : Ex B B4 := g4.bb
      -- wrong = [..]
      have ez1 : (((W.cd L t).zip h).map fun p => PyData.int (p.1 : Int)) = (W.cd L t).map fun (u : Nat) => PyData.int (u : Int) := by
        conv => rhs; rw [← List.map_fst_zip (l₁ := W.cd L t) (l₂ := h) (by rw [cd_len]; omega)]
        rw [List.map_map]
        rfl
      have ez2 : (((W.cd L t).zip h).map fun p => oD p.2) = h.map oD := by
        conv => rhs; rw [← List.map_snd_zip (l₁ := W.cd L t) (l₂ := h) (by rw [cd_len]; omega)]
        rw [List.map_map]
        rfl
      refine q_asgF (K := K) (B := B4) xbU (ef_lcZ (K := K) ((W.cd L t).zip h) (fun p => .int (p.1 : Int)) (fun p => oD p.2) (fun p => p.2 != none && decide (p.2 ≠ some p.1)) (fun p => .int (p.1 : Int)) (ea2 ((ev_var rfl hdy2).is (by rw [ez1]; rfl)) ((ev_var rfl (dm hB4 hhv)).is (by rw [ez2]; rfl))) (by rw [List.length_zip, cd_len]; omega) (fun _ _ => rfl)
        (fun p hp x y B' e' hx hy => ?_) (fun p hp _ x y B' e' hx hy => ev_var rfl hx)) fun wv' B5 H5 g5 d5 => ?_
      · obtain ⟨c, o⟩ := p
        cases o with
        | none => exact (et_and (a := false) (b := false) (et_test (K := K) (ev_notN (ev_var rfl hy) rfl)) (fun z => nomatch z)).is rfl
        | some m =>
          refine (et_and (a := true) (b := !decide ((m : Int) = (c : Int))) (et_test (K := K) (ev_notN (ev_var rfl hy) rfl)) (fun _ => et_test (K := K) (ev_neI (ev_var rfl hy) (ev_var rfl hx)))).is ?_
          show (true && !decide ((m : Int) = (c : Int))) = ((some m != none) && decide (some m ≠ some c))
          by_cases z : m = c
          · subst z
            simp
          · have z2 : ¬ (m : Int) = (c : Int) := by omega
            simp [z, z2]
      · have fl5 : B5 fl = none := g5.off hfl4 (by rw [hfU]; exact fun z => nomatch z)
        have hf5 := g5.hh _ _ hfU
        have tk : (W.ths k).take (i + 1) = (W.ths k).take i ++ [t] := by
          rw [List.take_add_one, hti] <;> rfl
        refine s_if (B := B5) (b := W.fit L h lies t) g5.bh (et_test (K := K) ((ev_I0b (g := fun i j => decide (i ≤ j)) (ev_lenL (ev_var rfl d5.d)) (ev_var rfl (dm (hB4.trans g5.bb) hyv))).is ?_)) (fun hb H6 g6 => ?_) (fun hb H6 g6 => ?_)
        · rw [List.length_map]
          refine congrArg PyData.bool (decide_eq_decide.mpr ?_)
          unfold Web.wr
          omega
        · refine s_appA (K := K) (xs := acc) (g6.hh _ _ hf5) (ax_var rfl) (ax_var rfl) ?_ ⟨_, _, _, acc ++ [tv], rfl, (((x.trans (Ex.new hU)).trans g5.hh).trans g6.hh).mut hflH, ((xbU.trans g5.hh).trans g6.hh).mut hfl4, upd_same, ?_⟩
          · have := da_len hacc
            rw [List.length_map] at this
            have q1 := List.length_filter_le (W.fit L h lies) ((W.ths k).take i)
            rw [List.length_take] at q1
            omega
          · rw [tk, List.filter_append, List.map_append, List.filter_cons, if_pos hb]
            exact da_snoc hacc hdx2
        · refine ⟨_, _, _, acc, rfl, ((x.trans (Ex.new hU)).trans g5.hh).trans g6.hh, (xbU.trans g5.hh).trans g6.hh, g6.hh _ _ hf5, ?_⟩
          rw [tk, List.filter_append, List.map_append, List.filter_cons, if_neg (by rw [hb]; decide)]
          simp only [List.filter_nil, List.map_nil, List.append_nil]
          exact hacc
  · rintro σ H' ⟨x6, x7, x8, acc, rfl, x, xb, hf, hacc⟩
    try dsimp only
    rw [l1, List.take_length] at hacc
    have gg : Gr B H B4 H' := ⟨g4.bb, xb, x, fun p hp => by
      rcases g4.fp p hp with z | z
      · exact .inl z
      · exact .inr ((eH3.mut hflH).free z)⟩
    exact rt_ (te := tVar 5) ⟨_, rfl, q _ _ H' (gg.own hflH hfl4 hf) (.lst (.inl (.inl upd_same)) (dms (Ex.new hfl4) hacc))⟩
end
end Fx
set_option Elab.async false
set_option linter.all false
set_option maxRecDepth 100000
set_option autoImplicit false
namespace Fx
open PySem PySem.Spec PyProof.Rows L2
instance (W : Web) : Decidable W.tree := inferInstanceAs (Decidable (_ = _))
abbrev sIt : Stmt := topS 33
theorem scIt : FnScope ["web"] ["web"] (defScope sIt) := ⟨rfl, rfl, rfl, by decide +kernel, rfl, by decide +kernel, by decide +kernel⟩
def rIt (ds : List PyData) (r : PyData) : Prop := ∃ (W : Web), W.Ok ∧ ds = [webD W] ∧ r = .bool (decide W.tree)
abbrev sTk : Stmt := topS 34
theorem scTk : FnScope ["web"] ["web"] (defScope sTk) := ⟨rfl, rfl, rfl, by decide +kernel, rfl, by decide +kernel, by decide +kernel⟩
def rTk (ds : List PyData) (r : PyData) : Prop := ∃ (W : Web), W.Ok ∧ W.tree ∧ ds = [webD W] ∧ r = .none
abbrev sAn : Stmt := topS 36
abbrev nAn : List Str := ["web", "place"]
theorem scAn : FnScope nAn ["web"] (defScope sAn) := ⟨rfl, rfl, rfl, by decide +kernel, rfl, by decide +kernel, by decide +kernel⟩
abbrev sPf : Stmt := topS 37
abbrev nPf : List Str := ["near", "place", "start", "found", "line", "at", "other"]
theorem scPf : FnScope nPf ["near", "place", "start"] (defScope sPf) := ⟨rfl, rfl, rfl, by decide +kernel, rfl, by decide +kernel, by decide +kernel⟩
def rPf (ds : List PyData) (r : PyData) : Prop := ∃ (W : Web) (p a : Nat), W.Ok ∧ W.tree ∧ W.adj p a ∧ ds = [nearD W, .int (p : Int), .int (a : Int)] ∧ r = nD (W.piece p a)
abbrev sPy : Stmt := topS 38
abbrev nPy : List Str := ["near", "place", "start"]
theorem scPy : FnScope nPy ["near", "place"] (defScope sPy) := ⟨rfl, rfl, rfl, by decide +kernel, rfl, by decide +kernel, by decide +kernel⟩
def rPy (ds : List PyData) (r : PyData) : Prop := ∃ (W : Web) (p : Nat), W.Ok ∧ W.tree ∧ p < W.n ∧ ds = [nearD W, .int (p : Int)] ∧ r = .list ((W.nbr p).map fun a => nD (W.piece p a))
abbrev sLi : Stmt := topS 39
abbrev nLi : List Str := ["near", "place", "looks", "piece", "look"]
theorem scLi : FnScope nLi ["near", "place", "looks"] (defScope sLi) := ⟨rfl, rfl, rfl, by decide +kernel, rfl, by decide +kernel, by decide +kernel⟩
def rLi (ds : List PyData) (r : PyData) : Prop := ∃ (W : Web) (p : Nat) (L : List Nat), W.Ok ∧ W.tree ∧ p < W.n ∧ W.Lk L ∧ ds = [nearD W, .int (p : Int), nD L] ∧ r = nD ((W.nbr p).map fun a => W.cnt L p a)
abbrev sTs : Stmt := topS 40
abbrev nTs : List Str := ["web", "looks", "kind", "near", "found", "place", "counts"]
theorem scTs : FnScope nTs ["web", "looks", "kind"] (defScope sTs) := ⟨rfl, rfl, rfl, by decide +kernel, rfl, by decide +kernel, by decide +kernel⟩
def rTs (ds : List PyData) (r : PyData) : Prop := ∃ (W : Web) (L : List Nat) (k : Kd), W.Ok ∧ W.tree ∧ W.Lk L ∧ ds = [webD W, nD L, kdD k] ∧ r = strD (W.str L k)
theorem nbr_len {W : Web} (p : Nat) : (W.nbr p).length ≤ W.n := by
  have := List.length_filter_le (fun u => decide (W.adj p u)) (List.range W.n)
  rw [List.length_range] at this
  exact this
/-! ### dicts of ints as sets -/
theorem valV_two {p a v : Int} {x y : V} : (valV (mergeK [] [(Sum.inl p, x), (Sum.inl a, y)]) (Sum.inl v : Key)).isSome = decide (v = p ∨ v = a) := by
  show (valV (putK (putK [] (Sum.inl p : Key) x) (Sum.inl a) y) (Sum.inl v : Key)).isSome = _
  rw [valV_put, valV_put, valV_nil]
  by_cases h : v = a
  · subst h
    simp
  · have h1 : ¬ ((Sum.inl v : Key) = Sum.inl a) := fun e => h (Sum.inl.inj e)
    rw [if_neg h1]
    by_cases h2 : v = p
    · subst h2
      simp
    · have h3 : ¬ ((Sum.inl v : Key) = Sum.inl p) := fun e => h2 (Sum.inl.inj e)
      rw [if_neg h3]
      simp [h, h2]
/-! ### the odd small trees -/
theorem Web.Ok.two_dist {W : Web} (ok : W.Ok) {a b l : Nat} (h : W.n = 2) (ha : a < 2) (hb : b < 2) (hne : a ≠ b) (hl : l < 2) : W.D l a ≠ W.D l b := by
  intro e
  have h1 : l = a ∨ l = b := by omega
  rcases h1 with h1 | h1
  · subst h1
    rw [ok.refl0 (by omega)] at e
    have := ok.pos_of_ne (a := l) (b := b) (by omega) (by omega) hne
    omega
  · subst h1
    rw [ok.refl0 (by omega)] at e
    have := ok.pos_of_ne (a := l) (b := a) (by omega) (by omega) (Ne.symm hne)
    omega
theorem Web.Ok.str_two {W : Web} (ok : W.Ok) (h : W.n = 2) {L : List Nat} (hL : W.Lk L) : W.str L .places = some L.length := by
  have np : ∀ a b, a < 2 → b < 2 → a ≠ b → W.np L (.pl a) (.pl b) = L.length := fun a b ha hb hne => by
    unfold Web.np
    rw [List.filter_eq_self.mpr]
    intro l hl
    have := hL.lt hl
    exact decide_eq_true (ok.two_dist h ha hb hne (by omega))
  have m : ∀ v, v < 2 → Th.pl v ∈ W.ths .places := fun v hv => List.mem_map.mpr ⟨v, List.mem_range.mpr (by omega), rfl⟩
  refine ok.str_is ⟨.pl 0, .pl 1, m 0 (by omega), m 1 (by omega), by decide, np 0 1 (by omega) (by omega) (by decide)⟩ fun s t hs ht hne => ?_
  obtain ⟨a, ha, rfl⟩ := List.mem_map.mp hs
  obtain ⟨b, hb, rfl⟩ := List.mem_map.mp ht
  rw [List.mem_range] at ha hb
  rw [np a b (by omega) (by omega) fun e => hne (by rw [e])]
  exact Nat.le_refl _
theorem Web.Ok.str_small {W : Web} (ok : W.Ok) (tr : W.tree) {L : List Nat} {k : Kd} (h : W.n = 1 ∨ (W.n = 2 ∧ k = .ties)) : W.str L k = none := by
  unfold Web.tree at tr
  refine Web.str_none.mpr ?_
  rcases h with h | ⟨h, rfl⟩
  · cases k with
    | places => show ((List.range W.n).map Th.pl).length < _; rw [List.length_map, List.length_range]; omega
    | ties => show (W.es.map _).length < _; rw [List.length_map]; omega
    | all => show ((List.range W.n).map Th.pl ++ W.es.map _).length < _; rw [List.length_append, List.length_map, List.length_map, List.length_range]; omega
  · show (W.es.map _).length < _
    rw [List.length_map]
    omega
theorem Web.Ok.str_big {W : Web} (ok : W.Ok) (tr : W.tree) {L : List Nat} {k : Kd} (h : 3 ≤ W.n ∨ (k = .all ∧ 2 ≤ W.n)) : ∃ m, W.str L k = some m := by
  unfold Web.tree at tr
  cases q : W.str L k with
  | some m => exact ⟨m, rfl⟩
  | none =>
    have := Web.str_none.mp q
    cases k with
    | places =>
      have this : ((List.range W.n).map Th.pl).length < 2 := this
      rw [List.length_map, List.length_range] at this
      rcases h with h | h
      · omega
      · exact nomatch h.1
    | ties =>
      have this : (W.es.map fun p => Th.ti p.1 p.2).length < 2 := this
      rw [List.length_map] at this
      rcases h with h | h
      · omega
      · exact nomatch h.1
    | all =>
      have this : ((List.range W.n).map Th.pl ++ W.es.map fun p => Th.ti p.1 p.2).length < 2 := this
      rw [List.length_append, List.length_map, List.length_map, List.length_range] at this
      rcases h with h | h <;> omega
section
variable {P : Program} {w : World} {K : PySem.W.Frag} {mg : Str → Option Value} {base : Heap}
theorem ok_it {f : Addr} {fd : FuncData} (D : Df K mg "is_tree" sIt ["web"] f fd) (T : Bt mg) : Gd P w K mg base "is_tree" ["web"] 1 (spD K rIt) := by
  refine gd_ofD (N := ["web"]) D scIt (fun ds r ⟨W, _, e, _⟩ => by rw [e]; rfl) fun cdv A outer s H B vs ds r Q E hr e hd hR q => ?_
  obtain ⟨W, ok, rfl, rfl⟩ := hR
  obtain ⟨wv, rfl, hw⟩ := da1 hd
  refine ⟨_, pss_one (ps_ret (pe_cmpR op_eq (be_len K T.len (be_ixT K (pv 0) pe_int)) (pe_op op_sub (be_ixT K (pv 0) pe_int) pe_int) (nomark _))), ?_⟩
  refine s_ret (K := K) e ((ev_eqI (ev_lenT (ds := W.es.map tieD) (ev_ixT (i := 1) (ev_var rfl hw) ev_int rfl)) (ev_I0 (g := fun i j => i - j) (ev_ixT (i := 0) (d := .int (W.n : Int)) (ev_var rfl hw) ev_int rfl) ev_int)).is ?_) fun v B1 H1 g1 d1 => q v B1 H1 g1 d1
  have := ok.pos
  refine congrArg PyData.bool (decide_eq_decide.mpr ?_)
  rw [List.length_map]
  unfold Web.tree
  omega
theorem ok_tk {f : Addr} {fd : FuncData} (D : Df K mg "tree_asked" sTk ["web"] f fd) (G : Gd P w K mg base "is_tree" ["web"] 1 (spD K rIt)) : Gd P w K mg base "tree_asked" ["web"] 2 (spD K rTk) := by
  refine gd_ofD (N := ["web"]) D scTk (fun ds r ⟨W, _, _, e, _⟩ => by rw [e]; rfl) fun cdv A outer s H B vs ds r Q E hr e hd hR q => ?_
  obtain ⟨W, ok, tr, rfl, rfl⟩ := hR
  obtain ⟨wv, rfl, hw⟩ := da1 hd
  refine ⟨_, pss_one (ps_if (pt_not (pt_val (pe_fn G hr (pa_cons (pv 0) pa_nil)))) pss_never pss_nil), ?_⟩
  refine s_no e ((et_not (et_B (K := K) (ev_call (ea1 (ev_var rfl hw)) ⟨W, ok, rfl, rfl⟩))).is ?_) fun H' x => q .non B H' (Gr.ext e x) .non
  rw [decide_eq_true tr]
  rfl
theorem ok_an {f : Addr} {fd : FuncData} (D : Df K mg "all_near" sAn ["web"] f fd) (T : Bt mg) (G : Gd P w K mg base "neighbours_of" ["web", "place"] 2 (spD K rNb)) : Gd P w K mg base "all_near" ["web"] 3 (spD K rNear) := by
  refine gd_ofD (N := nAn) D scAn (fun ds r ⟨W, _, e, _⟩ => by rw [e]; rfl) fun cdv A outer s H B vs ds r Q E hr e hd hR q => ?_
  obtain ⟨W, ok, rfl, rfl⟩ := hR
  obtain ⟨wv, rfl, hw⟩ := da1 hd
  have hle := ok.le
  refine ⟨_, pss_one (ps_ret (pe_lc (own := [("place", 1)]) (g := gName 1) (tt := tYes) rfl scAn.nd (pi_range1 rfl T.rng (pa_cons (be_ixT K (pv 0) pe_int) pa_nil)) (blkOk_by (N := nAn) (sc := defScope sAn) (by decide +kernel)) (fun _ _ _ _ _ => pg_name (i := 1) scAn.nd rfl (Or.inl rfl)) (fun _ _ _ _ _ => pts_nil)
      (fun _ _ _ _ _ => pe_fn G hr (pa_cons (pv 0) (pa_cons (pv 1) pa_nil))))), ?_⟩
  refine s_ret (K := K) e (ef_lcR (K := K) W.n (fun _ => true) (fun p => nD (W.nbr p)) (ea1 (ev_ixT (i := 0) (ev_var rfl hw) ev_int rfl)) (by omega) (fun _ => rfl) (fun _ _ _ _ => tYes_ (K := K)) (fun p hp _ B' e' => ev_call (ea2 (ev_var rfl (dm e' hw)) (ev_var rfl (.int _))) ⟨W, p, ok, hp, rfl, rfl⟩)).toD fun v B2 H2 g2 d2 => q v B2 H2 g2 ?_
  rw [nmap_all] at d2
  exact d2
structure PcsW (W : Web) (H0 : Hp) (p : Nat) (da la : Addr) (line : List Nat) (H : Hp) : Prop where
  ex : Ex H0 H
  d : ∃ kvs : List (Key × V), H da = some (.dK kvs) ∧ kvs.length ≤ line.length + 2 ∧ ∀ v : Nat, (valV kvs (Sum.inl (v : Int) : Key)).isSome = decide (v = p ∨ v ∈ line)
  l : H la = some (.lst (line.map fun (u : Nat) => V.int (u : Int)))
theorem PcsW.up {W : Web} {H0 H H' : Hp} {p : Nat} {da la : Addr} {line : List Nat} (x : PcsW W H0 p da la line H) (e : Ex H H') : PcsW W H0 p da la line H' := by
  obtain ⟨kvs, h1, h2⟩ := x.d
  exact ⟨x.ex.trans e, ⟨kvs, e _ _ h1, h2⟩, e _ _ x.l⟩
theorem ok_pf {f : Addr} {fd : FuncData} (D : Df K mg "piece_from" sPf ["near", "place", "start"] f fd) (T : Bt mg) : Gd P w K mg base "piece_from" ["near", "place", "start"] 1 (spD K rPf) := by
  refine gd_ofD (N := nPf) D scPf (fun ds r ⟨W, p, a, _, _, _, e, _⟩ => by rw [e]; rfl) fun cdv A outer s H B vs ds r Q E hr e hd hR q => ?_
  obtain ⟨W, p, a, ok, tr, pa, rfl, rfl⟩ := hR
  obtain ⟨nv, pv', av', rfl, hnv, hpv, hav⟩ := da3 hd
  have hpi := Dpi hpv
  subst hpi
  have hai := Dpi hav
  subst hai
  have hle := ok.le
  have hpn := (ok.adjLt pa).1
  have han := (ok.adjLt pa).2.1
  refine ⟨_, pss_cons (ps_set (i := 3) scPf.nd rfl (.inl rfl) (pe_disp (pps_cons (pv 1) pe_bl (pps_cons (pv 2) pe_bl pps_nil)) (by rfl) (by rfl) (fun z => by cases z) (by decide)))
    (pss_cons (ps_set (i := 4) scPf.nd rfl (.inl rfl) (pe_lst (pa_cons (pv 2) pa_nil)))
    (pss_cons (ps_set (i := 5) scPf.nd rfl (.inl rfl) pe_int)
    (pss_cons (ps_while PassesOwn.never (pt_cmpR op_lt (pv 5) (be_len K T.len (pv 4)) (nomark _))
      (pss_cons (ps_for PassesOwn.never rfl (be_lstI K (be_ixL K (pv 0) (be_ixL K (pv 4) (pv 5)))) (pg_name (i := 6) scPf.nd rfl (.inl rfl))
        (pss_one (ps_if (pt_cmp (pc_dnotin (u1 hr) (pv 6) (pv 3)) rfl)
          (pss_cons (ps_dput (u1 hr) (pv 3) (pv 6) pe_bl rfl)
            (pss_one (ps_expr (pe_bm PySem.F.plainAttrs_list PySem.F.slot_list_append PySem.F.type_list_append mt_append (pv 4) (pa_cons (pv 6) pa_nil)))))
          pss_nil)))
        (pss_one (ps_set (i := 5) scPf.nd rfl (.inl rfl) (pe_op op_add (pv 5) pe_int)))))
    (pss_one (ps_ret (be_sorted K T.sorted (pv 4))))))), ?_⟩
  -- found = {place: True, start: True}
  refine sq (as_ ?_)
  intro da hda
  refine ⟨_, rfl, _, rfl, upd_same, [(Sum.inl (p : Int), .bl true), (Sum.inl (a : Int), .bl true)], rfl, by simp, ?_⟩
  rw [upd_upd]
  have hdB : B da = none := e.free hda
  -- line = [start]
  try dsimp only
  refine sq (own_lst (K := K) (i := 4) (e.mut hdB) (ea1 (ev_var rfl (.int _))) (by simp) fun la vs B4 H4 g4 d4 hla => ?_)
  obtain ⟨x4, rfl, hx4⟩ := da1 d4
  rw [Dpi hx4]
  have ex4 : Ex H H4 := (Ex.new hda).trans g4.hh
  have hlaH : H la = none := ex4.free hla
  have hdl : da ≠ la := fun z => by
    have := g4.hh da _ upd_same
    rw [z, hla] at this
    cases this
  have hlB : B la = none := e.free hlaH
  -- at = 0
  try dsimp only
  refine sq (s_asg (K := K) (B := B) (i := 5) (d := .int 0) ((e.trans ex4).mut hlB) ev_int fun v5 B5 H5 g5 d5 => ?_)
  rw [Dpi d5]
  -- while at < len(line)
  try dsimp only
  refine sq (while_ (fun m σ H' => ∃ (line : List Nat) (at_ : Nat) (x6 : Option V), σ = [some nv, some (.int (p : Int)), some (.int (a : Int)), some (.ref da), some (.ref la), some (.int (at_ : Int)), x6] ∧ m = W.n - at_ ∧ at_ ≤ line.length ∧ PcsW W H p da la line H' ∧ Pcs W p a line at_) W.n ?_ ?_)
  · refine ⟨[a], 0, none, rfl, by omega, by simp, ⟨(ex4.mut hlaH).trans g5.hh, ⟨mergeK [] [(Sum.inl (p : Int), .bl true), (Sum.inl (a : Int), .bl true)], g5.hh _ _ ?_, ?_, fun v => ?_⟩, g5.hh _ _ upd_same⟩, Pcs.start ok pa⟩
    · rw [upd_ne hdl]
      exact g4.hh _ _ upd_same
    · exact Nat.le_trans (length_mergeK [(Sum.inl (p : Int), .bl true), (Sum.inl (a : Int), .bl true)] []) (by simp)
    · rw [valV_two]
      refine decide_eq_decide.mpr ?_
      rw [List.mem_singleton]
      omega
  · rintro m σ' H' ⟨line, at_, x6, rfl, rfl, hat, pw, pc⟩
    have xB : Ex B H' := e.trans pw.ex
    have hl7 := pc.len
    refine ⟨decide ((at_ : Int) < ((line.length : Nat) : Int)), upd B la (.lst (line.map fun (u : Nat) => V.int (u : Int))), xB.at pw.l, et_test (K := K) ?_, fun hb H6 g6 => ?_, fun hb H6 g6 => ?_⟩
    · refine ev_I0b (g := fun i j => decide (i < j)) (ev_var rfl (.int _)) ((ev_lenL (ev_var rfl (.lst (.inl (.inl upd_same)) (da_nats line)))).is ?_)
      rw [List.length_map]
    · have hlt : at_ < line.length := by
        have := of_decide_eq_true hb
        omega
      have hu : line[at_]? = some line[at_] := List.getElem?_eq_getElem hlt
      generalize line[at_] = u at hu
      have hun : u < W.n := (pc.good u (List.mem_of_getElem? hu)).1
      have pw6 := pw.up g6.hh
      have lnV : ∀ (line : List Nat) (k x : Nat), line[k]? = some x → (line.map fun (u : Nat) => V.int (u : Int))[k]? = some (.int (x : Int)) := fun line k x h => by rw [List.getElem?_map, h]; rfl
      refine ⟨fun σ2 H2 => ∃ (line : List Nat) (x6 : Option V), σ2 = [some nv, some (.int (p : Int)), some (.int (a : Int)), some (.ref da), some (.ref la), some (.int ((at_ + 1 : Nat) : Int)), x6] ∧ at_ + 1 ≤ line.length ∧ PcsW W H p da la line H2 ∧ Pcs W p a line (at_ + 1), ?_, ?_⟩
      · rintro σ2 H2 ⟨line, x6, rfl, h1, h2, h3⟩
        exact ⟨W.n - (at_ + 1), by omega, line, at_ + 1, x6, rfl, rfl, h1, h2, h3⟩
      -- for other in near[line[at]]
      obtain ⟨nu, hnu, axn⟩ := ax_ixLD (K := K) (B := B) (H := H6) (ta := tVar 0) (tb := tOp (rIxL K) (tVar 4) (tVar 5)) (σ := [some nv, some (.int (p : Int)), some (.int (a : Int)), some (.ref da), some (.ref la), some (.int (at_ : Int)), x6]) (i := u) (ax_var rfl) hnv (e.trans pw6.ex) (ax_ixL (ax_var rfl) (ax_var rfl) pw6.l (lnV line at_ u hu)) (near_at hun)
      obtain ⟨na, nxs, rfl, hns, hnd⟩ := Dpl hnu
      have hnx := da_natsV hnd
      subst hnx
      try dsimp only
      refine sq (forLa_ axn ((e.trans pw6.ex).sl hns) ?_)
      refine for_list (xs := (W.nbr u).map fun (u : Nat) => V.int (u : Int)) (fun k σ H' => ∃ (line : List Nat) (x6 : Option V), σ = [some nv, some (.int (p : Int)), some (.int (a : Int)), some (.ref da), some (.ref la), some (.int (at_ : Int)), x6] ∧ PcsW W H p da la line H' ∧ PcsI W p a line at_ u k) ⟨line, x6, rfl, pw6, pc.inner hu⟩ ?_ ?_ ?_
      · rintro k σ H' _ ⟨line, x6, rfl, pw, bi⟩
        exact (e.trans pw.ex).sl hns
      · rintro k x σ H' hx ⟨line, x6, rfl, pw, bi⟩
        rw [List.getElem?_map] at hx
        cases hk : (W.nbr u)[k]? with
        | none => rw [hk] at hx; cases hx
        | some v =>
          rw [hk] at hx
          cases hx
          obtain ⟨kvs, hd1, hd2, hd3⟩ := pw.d
          -- if other not in found
          refine ⟨_, rfl, _, rfl, da, _, rfl, DGet.k (k := Sum.inl (v : Int)) hd1, _, rfl, ?_⟩
          rw [hd3 v]
          by_cases hv : v = p ∨ v ∈ line
          · rw [decide_eq_true hv]
            exact ⟨line, _, rfl, pw, bi.old hk hv⟩
          · rw [decide_eq_false hv]
            have hvp : v ≠ p := fun z => hv (.inl z)
            have hvl : v ∉ line := fun z => hv (.inr z)
            have l7 := bi.b.len
            -- found[other] = True
            refine ⟨.ref da, rfl, .int (v : Int), rfl, da, _, rfl, DPut.k (k := Sum.inl (v : Int)) hd1 (smallt (by omega)), ?_⟩
            -- line.append(other)
            have ex8 : Ex H (upd H' da (.dK (putK kvs (Sum.inl (v : Int)) (.bl true)))) := pw.ex.mut hda
            refine s_appA (K := K) (xs := line.map fun (u : Nat) => V.int (u : Int)) (by rw [upd_ne hdl.symm]; exact pw.l) (ax_var rfl) (ax_var rfl) (by rw [List.length_map]; omega) ?_
            refine ⟨line ++ [v], _, rfl, ⟨ex8.mut hlaH, ⟨putK kvs (Sum.inl (v : Int)) (.bl true), ?_, ?_, fun y => ?_⟩, ?_⟩, bi.new ok tr pa hk hvp hvl⟩
            · rw [upd_ne hdl]
              exact upd_same
            · have := length_putK kvs (Sum.inl (v : Int)) (.bl true)
              rw [List.length_append]
              simp only [List.length_singleton]
              omega
            · rw [valV_put]
              by_cases hy : y = v
              · subst hy
                rw [if_pos rfl, decide_eq_true (.inr (List.mem_append_right _ (List.mem_singleton.mpr rfl)))]
                rfl
              · rw [if_neg (fun z => hy (by have := Sum.inl.inj z; omega)), hd3 y]
                refine decide_eq_decide.mpr ?_
                rw [List.mem_append, List.mem_singleton]
                constructor
                · rintro (z | z)
                  · exact .inl z
                  · exact .inr (.inl z)
                · rintro (z | z | z)
                  · exact .inl z
                  · exact .inr z
                  · exact absurd z hy
            · rw [upd_same, List.map_append]
              rfl
      · rintro σ H' ⟨line, x6, rfl, pw, bi⟩
        rw [List.length_map] at bi
        have bn := bi.next ok (Nat.le_refl _)
        have hl := (List.getElem?_eq_some_iff.mp bi.here).1
        -- at = at + 1
        refine s_asg (K := K) (B := B) (d := .int ((at_ : Int) + 1)) (e.trans pw.ex) (ev_I0 (g := fun i j => i + j) (ev_var rfl (.int _)) ev_int) fun v10 B10 H10 g10 d10 => ?_
        rw [Dpi d10]
        exact ⟨line, x6, rfl, by omega, pw.up g10.hh, bn⟩
    · have hge : line.length ≤ at_ := by
        have := of_decide_eq_false hb
        omega
      have all := pc.all ok pa hge
      have pw6 := pw.up g6.hh
      have gB : Gr B H B H6 := Gr.ext e pw6.ex
      have gO := gB.own hlaH hlB pw6.l
      try dsimp only
      refine s_ret (K := K) gO.bh ((ev_sorted (ns := line.map fun (u : Nat) => (u : Int)) (ms := (W.piece p a).map fun (u : Nat) => (u : Int)) ((ev_var rfl (.lst (.inl (.inl upd_same)) (da_nats line))).is (by rw [ints_map])) (by rw [List.length_map]; omega) fun ks h1 h2 => sort_eq h1 h2 pc.nd all).is (by unfold nD; rw [ints_map])) fun v B7 H7 g7 d7 => q v B7 H7 (gO.trans g7) d7
theorem ok_py {f : Addr} {fd : FuncData} (D : Df K mg "pieces_by" sPy ["near", "place"] f fd) (G : Gd P w K mg base "piece_from" ["near", "place", "start"] 1 (spD K rPf)) : Gd P w K mg base "pieces_by" ["near", "place"] 2 (spD K rPy) := by
  refine gd_ofD (N := nPy) D scPy (fun ds r ⟨W, p, _, _, _, e, _⟩ => by rw [e]; rfl) fun cdv A outer s H B vs ds r Q E hr e hd hR q => ?_
  obtain ⟨W, p, ok, tr, hp, rfl, rfl⟩ := hR
  obtain ⟨nv, pv', rfl, hnv, hpv⟩ := da2 hd
  have hle := ok.le
  have hnl := nbr_len (W := W) p
  refine ⟨_, pss_one (ps_ret (pe_lc (own := [("start", 2)]) (g := gName 2) (tt := tYes) rfl scPy.nd (be_lstI K (be_ixL K (pv 0) (pv 1))) (blkOk_by (N := nPy) (sc := defScope sPy) (by decide +kernel)) (fun _ _ _ _ _ => pg_name (i := 2) scPy.nd rfl (Or.inl rfl)) (fun _ _ _ _ _ => pts_nil)
      (fun _ _ _ _ _ => pe_fn G hr (pa_cons (pv 0) (pa_cons (pv 1) (pa_cons (pv 2) pa_nil)))))), ?_⟩
  refine s_ret (K := K) e (ef_lcL (K := K) (W.nbr p) (fun (u : Nat) => PyData.int (u : Int)) (fun _ => true) (fun a => nD (W.piece p a)) (ev_ixL (i := p) (ev_var rfl hnv) (ev_var rfl hpv) (near_at hp)) (by omega) (fun _ => rfl) (fun _ _ _ _ _ _ => tYes_ (K := K)) (fun a ham _ x B' e' hx => ev_call (ea3 (ev_var rfl (dm e' hnv)) (ev_var rfl (dm e' hpv)) (ev_var rfl hx)) ⟨W, p, a, ok, tr, ok.mem_nbr.mp ham, rfl, rfl⟩)).toD fun v B2 H2 g2 d2 => q v B2 H2 g2 ?_
  rw [List.filter_eq_self.mpr (fun _ _ => rfl)] at d2
  exact d2
theorem ok_li {f : Addr} {fd : FuncData} (D : Df K mg "looks_in" sLi ["near", "place", "looks"] f fd) (T : Bt mg) (G : Gd P w K mg base "pieces_by" ["near", "place"] 2 (spD K rPy)) : Gd P w K mg base "looks_in" ["near", "place", "looks"] 3 (spD K rLi) := by
  refine gd_ofD (N := nLi) D scLi (fun ds r ⟨W, p, L, _, _, _, _, e, _⟩ => by rw [e]; rfl) fun cdv A outer s H B vs ds r Q E hr e hd hR q => ?_
  obtain ⟨W, p, L, ok, tr, hp, hL, rfl, rfl⟩ := hR
  obtain ⟨nv, pv', lv, rfl, hnv, hpv, hl⟩ := da3 hd
  have hle := ok.le
  have hnl := nbr_len (W := W) p
  have few := hL.few ok
  refine ⟨_, pss_one (ps_ret (pe_lc (own := [("piece", 3)]) (g := gName 3) (tt := tYes) rfl scLi.nd (be_lstI K (pe_fn G hr (pa_cons (pv 0) (pa_cons (pv 1) pa_nil)))) (blkOk_by (N := nLi) (sc := defScope sLi) (by decide +kernel)) (fun _ _ _ _ _ => pg_name (i := 3) scLi.nd rfl (Or.inr rfl)) (fun _ _ _ _ _ => pts_nil)
      (fun _ _ _ _ _ => be_len K T.len (pe_lc (own := [("look", 4)]) (g := gName 4) rfl scLi.nd (be_lstI K (pv 2)) (blkOk_by (by rfl)) (fun _ _ _ _ _ => pg_name (i := 4) scLi.nd rfl (Or.inl rfl)) (fun _ _ _ _ _ => pts_one (bt_in K (pv 4) (pv 3))) (fun _ _ _ _ _ => pv 4))))), ?_⟩
  refine s_ret (K := K) e (ef_lcL (K := K) (W.nbr p) (fun a => nD (W.piece p a)) (fun _ => true) (fun a => .int (W.cnt L p a : Nat)) (ev_call (ea2 (ev_var rfl hnv) (ev_var rfl hpv)) ⟨W, p, ok, tr, hp, rfl, rfl⟩) (by omega) (fun _ => rfl) (fun _ _ _ _ _ _ => tYes_ (K := K)) (fun a ham _ x B' e' hx => ?_)).toD fun v B2 H2 g2 d2 => q v B2 H2 g2 ?_
  · refine (ev_lenL (ef_lcL (K := K) L (fun (u : Nat) => PyData.int (u : Int)) (fun l => decide (l ∈ W.piece p a)) (fun (u : Nat) => PyData.int (u : Int)) (ev_var rfl (dm e' hl)) (by omega) (fun _ => rfl) (fun l hlm y B'' e'' hy => et_test (K := K) (ev_inN (ev_var rfl hy) (ev_var rfl (dm e'' hx)))) (fun l hlm _ y B'' e'' hy => ev_var rfl hy)).toD).is ?_
    rw [List.length_map]
    rfl
  · rw [List.filter_eq_self.mpr (fun _ _ => rfl)] at d2
    unfold nD
    rw [List.map_map]
    exact d2
theorem ok_ts {f : Addr} {fd : FuncData} (D : Df K mg "tree_strength" sTs ["web", "looks", "kind"] f fd) (T : Bt mg) (G1 : Gd P w K mg base "tree_asked" ["web"] 2 (spD K rTk)) (G2 : Gd P w K mg base "rising_asked" ["web", "looks"] 1 (spD K rLa)) (G3 : Gd P w K mg base "all_near" ["web"] 3 (spD K rNear))
    (G4 : Gd P w K mg base "looks_in" ["near", "place", "looks"] 3 (spD K rLi)) : Gd P w K mg base "tree_strength" ["web", "looks", "kind"] 4 (spD K rTs) := by
  refine gd_ofD (N := nTs) D scTs (fun ds r ⟨W, L, k, _, _, _, e, _⟩ => by rw [e]; rfl) fun cdv A outer s H B vs ds r Q E hr e hd hR q => ?_
  obtain ⟨W, L, k, ok, tr, hL, rfl, rfl⟩ := hR
  obtain ⟨wv, lv, kv, rfl, hw, hl, hk⟩ := da3 hd
  have hle := ok.le
  have hpos := ok.pos
  have few := hL.few ok
  refine ⟨_, pss_cons (ps_expr (pe_fn G1 hr (pa_cons (pv 0) pa_nil)))
    (pss_cons (ps_expr (pe_fn G2 hr (pa_cons (pv 0) (pa_cons (pv 1) pa_nil))))
    (pss_cons (ps_if (PW.pt (pw_or (pt_cmpR op_eq (be_ixT K (pv 0) pe_int) pe_int (nomark _)) (pw_or1 (PW.pt (pw_and (pt_cmpR op_eq (be_ixT K (pv 0) pe_int) pe_int (nomark _)) (pw_and1 (pt_cmpR op_eq (pv 2) pe_str (nomark _)))))))) (pss_one (ps_ret pe_non)) pss_nil)
    (pss_cons (ps_if (PW.pt (pw_and (pt_cmpR op_eq (be_ixT K (pv 0) pe_int) pe_int (nomark _)) (pw_and1 (pt_cmpR op_eq (pv 2) pe_str (nomark _))))) (pss_one (ps_ret (be_len K T.len (pv 1)))) pss_nil)
    (pss_cons (ps_set (i := 3) scTs.nd rfl (.inl rfl) (pe_fn G3 hr (pa_cons (pv 0) pa_nil)))
    (pss_cons (ps_set (i := 4) scTs.nd rfl (.inl rfl) (pe_lst pa_nil))
    (pss_cons (ps_for PassesOwn.never rfl (pi_range1 rfl T.rng (pa_cons (be_ixT K (pv 0) pe_int) pa_nil)) (pg_name (i := 5) scTs.nd rfl (.inl rfl))
      (pss_cons (ps_set (i := 6) scTs.nd rfl (.inl rfl) (be_sorted K T.sorted (pe_fn G4 hr (pa_cons (pv 3) (pa_cons (pv 5) (pa_cons (pv 1) pa_nil))))))
      (pss_one (ps_if (pt_cmpR op_eq (pv 2) pe_str (nomark _))
        (pss_one (ps_expr (pe_bm PySem.F.plainAttrs_list PySem.F.slot_list_append PySem.F.type_list_append mt_append (pv 4) (pa_cons (be_ixL K (pv 6) pe_int) pa_nil))))
        (pss_one (ps_if (pt_cmpR op_gt (be_len K T.len (pv 6)) pe_int (nomark _))
          (pss_one (ps_expr (pe_bm PySem.F.plainAttrs_list PySem.F.slot_list_append PySem.F.type_list_append mt_append (pv 4) (pa_cons (pe_op op_add (be_ixL K (pv 6) pe_int) (be_ixL K (pv 6) pe_int)) pa_nil)))) pss_nil))))))
    (pss_one (ps_ret (be_minL K T.min (pv 4)))))))))), ?_⟩
  refine q_drop (K := K) e (ev_call (ea1 (ev_var rfl hw)) ⟨W, ok, tr, rfl, rfl⟩) fun v B1 H1 g1 d1 => ?_
  have e1 : Ex B H1 := e.trans g1.hh
  refine q_drop (K := K) (B := B) e1 (ev_call (ea2 (ev_var rfl hw) (ev_var rfl hl)) ⟨W, L, ok, hL, rfl, rfl⟩) fun v B2 H2 g2 d2 => ?_
  have e2 : Ex B H2 := e1.trans g2.hh
  have eh2 : Ex H H2 := g1.hh.trans g2.hh
  have hn : ∀ {H : Sg}, H[0]? = some (some wv) → EvD K (tOp (rIxT K) (tVar 0) (tC (.int 0))) H B (.int (W.n : Int)) := fun h => ev_ixT (i := 0) (ev_var h hw) ev_int rfl
  have hks : ∀ (S : Str), EvT (tTest (tOp rEq (tVar 2) (tC (.str S)))) [some wv, some lv, some kv, none, none, none, none] B (decide (kdS k = S)) := fun S => et_test (K := K) (ev_eq (ev_var rfl hk) ev_str rfl rfl rfl (decide_eq_decide.mpr ⟨fun h => V.str.inj h, fun h => by rw [h]⟩))
  have kk : ∀ k : Kd, decide (kdS k = ("ties" : Str)) = decide (k = .ties) ∧ decide (kdS k = ("places" : Str)) = decide (k = .places) ∧ decide (kdS k = ("all" : Str)) = decide (k = .all) := fun k => by
    cases k <;> decide
  have t1 : EvT (tTest (tOp rEq (tOp (rIxT K) (tVar 0) (tC (.int 0))) (tC (.int 1)))) [some wv, some lv, some kv, none, none, none, none] B (decide (W.n = 1)) := (et_test (K := K) (ev_eqI (hn rfl) ev_int)).is (decide_eq_decide.mpr (by omega))
  have t2 : EvT (tTest (tOp rEq (tOp (rIxT K) (tVar 0) (tC (.int 0))) (tC (.int 2)))) [some wv, some lv, some kv, none, none, none, none] B (decide (W.n = 2)) := (et_test (K := K) (ev_eqI (hn rfl) ev_int)).is (decide_eq_decide.mpr (by omega))
  refine q_if (B := B) (b := decide (W.n = 1 ∨ (W.n = 2 ∧ k = .ties))) e2 ((et_or t1 fun _ => et_and t2 fun _ => (hks "ties").is (kk k).1).is ?_) (fun hb H3 g3 => ?_) (fun hb H3 g3 => ?_)
  · rw [← Bool.decide_and, ← Bool.decide_or]
  · refine s_ret (K := K) (B := B) g3.bh ev_non fun v B4 H4 g4 d4 => q v B4 H4 ((Gr.ext e (eh2.trans g3.hh)).trans g4) ?_
    rw [ok.str_small tr (of_decide_eq_true hb)]
    exact d4
  have nb := of_decide_eq_false hb
  have e3 : Ex B H3 := g3.bh
  have eh3 : Ex H H3 := eh2.trans g3.hh
  refine q_if (B := B) (b := decide (W.n = 2 ∧ k = .places)) e3 ((et_and t2 fun _ => (hks "places").is (kk k).2.1).is (Bool.decide_and _ _).symm) (fun hb H4 g4 => ?_) (fun hb2 H4 g4 => ?_)
  · have hb := of_decide_eq_true hb
    refine s_ret (K := K) (B := B) g4.bh (ev_lenL (ev_var rfl hl)) fun v B5 H5 g5 d5 => q v B5 H5 ((Gr.ext e (eh3.trans g4.hh)).trans g5) ?_
    rw [hb.2, ok.str_two hb.1 hL]
    rw [List.length_map] at d5
    exact d5
  have nb2 := of_decide_eq_false hb2
  have eh4 : Ex H H4 := eh3.trans g4.hh
  have big : 3 ≤ W.n ∨ (k = .all ∧ 2 ≤ W.n) := by
    by_cases h3 : 3 ≤ W.n
    · exact .inl h3
    · right
      have n2 : W.n = 2 := by omega
      cases k with
      | all => exact ⟨rfl, by omega⟩
      | places => exact absurd ⟨n2, rfl⟩ nb2
      | ties => exact absurd (.inr ⟨n2, rfl⟩) nb
  obtain ⟨m, hm⟩ := ok.str_big tr big (L := L)
  have hts := ok.tree_str tr hL big hm
  -- near = all_near(web)
  refine q_asg (K := K) (B := B) g4.bh (ev_call (ea1 (ev_var rfl hw)) ⟨W, ok, rfl, rfl⟩) fun nv B5 H5 g5 hnv => ?_
  have eh5 : Ex H H5 := eh4.trans g5.hh
  -- found = []
  refine sq (own_lst (K := K) (i := 4) (B := B5) g5.bh ea_nil (by simp) fun fl vs0 B6 H6 g6 d6 hfl => ?_)
  cases d6
  have eh6 : Ex H H6 := eh5.trans g6.hh
  have hflH : H fl = none := eh6.free hfl
  have hfl5 : B5 fl = none := g5.bh.free (g6.hh.free hfl)
  have hw5 := dm g5.bb hw
  have hl5 := dm g5.bb hl
  have hk5 := dm g5.bb hk
  try dsimp only
  refine sq (forR1_ (K := K) (B := B5) (n := W.n) (ea1 (ev_ixT (i := 0) (ev_var rfl hw5) ev_int rfl)) ((g5.bh.trans g6.hh).mut hfl5) (by omega) fun B7 H7 g7 => ?_)
  refine for_range (lo := 0) (n := W.n) (fun i σ H' => ∃ x5 x6, σ = [some wv, some lv, some kv, some nv, some (.ref fl), x5, x6] ∧ Ex H H' ∧ Ex B5 H' ∧ H' fl = some (.lst ((W.tsL L k i).map fun (u : Nat) => V.int (u : Int)))) ?_ ?_ ?_
  · exact ⟨none, none, rfl, (eh6.mut hflH).trans g7.hh, ((g5.bh.trans g6.hh).mut hfl5).trans g7.hh, g7.hh _ _ upd_same⟩
  · rintro i σ H' hi ⟨x5, x6, rfl, x, xb, hf⟩
    have ei : (0 : Int) + (i : Int) = (i : Int) := Int.zero_add _
    rw [ei]
    have hcl : (W.cs L i).length = (W.nbr i).length := srt_len
    have hnl := nbr_len (W := W) i
    have tl : (W.tsL L k i).length ≤ i := by
      unfold Web.tsL
      have := List.length_filterMap_le (fun p => pick k (W.cs L p)) (List.range i)
      rw [List.length_range] at this
      exact this
    -- counts = sorted(..)
    refine q_asg (K := K) (B := B5) (d := nD (W.cs L i)) xb ((ev_sorted (ns := ((W.nbr i).map fun a => W.cnt L i a).map fun (u : Nat) => (u : Int)) (ms := (W.cs L i).map fun (u : Nat) => (u : Int)) ((ev_call (ea3 (ev_var rfl hnv) (ev_var rfl (.int _)) (ev_var rfl hl5)) ⟨W, i, L, ok, tr, hi, hL, rfl, rfl⟩).is (by unfold nD; rw [ints_map])) (by rw [List.length_map, List.length_map]; omega) fun ks h1 h2 => srt_is h1 h2).is (by unfold nD; rw [ints_map])) fun cv B8 H8 g8 hcv => ?_
    have hf8 := g8.hh _ _ hf
    have hfl8 : B8 fl = none := g8.off hfl5 (by rw [hf]; exact fun z => nomatch z)
    have x8 : Ex H H8 := x.trans g8.hh
    have xb8 : Ex B5 H8 := xb.trans g8.hh
    have tsn := Web.tsL_succ W L k i
    have hks : EvT (tTest (tOp rEq (tVar 2) (tC (.str "all")))) [some wv, some lv, some kv, some nv, some (.ref fl), some (.int (i : Int)), some cv] B8 (decide (k = .all)) := (et_test (K := K) (ev_eq (ev_var rfl (dm g8.bb hk5)) ev_str rfl rfl rfl (decide_eq_decide.mpr ⟨fun h => V.str.inj h, fun h => by rw [h]⟩))).is (kk k).2.2
    have step : ∀ (H9 : Hp) (t : Nat), Gr B8 H8 B8 H9 → pick k (W.cs L i) = some t → ∃ x5 x6, [some wv, some lv, some kv, some nv, some (.ref fl), some (.int (i : Int)), some cv] = [some wv, some lv, some kv, some nv, some (.ref fl), x5, x6] ∧ Ex H (upd H9 fl (.lst ((W.tsL L k i).map (fun (u : Nat) => V.int (u : Int)) ++ [.int (t : Int)]))) ∧ Ex B5 (upd H9 fl (.lst ((W.tsL L k i).map (fun (u : Nat) => V.int (u : Int)) ++ [.int (t : Int)]))) ∧
        (upd H9 fl (.lst ((W.tsL L k i).map (fun (u : Nat) => V.int (u : Int)) ++ [.int (t : Int)]))) fl = some (.lst ((W.tsL L k (i + 1)).map fun (u : Nat) => V.int (u : Int))) := fun H9 t g9 hp => by
      refine ⟨_, _, rfl, (x8.trans g9.hh).mut hflH, (xb8.trans g9.hh).mut hfl5, ?_⟩
      rw [upd_same, tsn, hp, List.map_append]
      rfl
    by_cases hka : k = .all
    · refine s_if (B := B8) (b := true) g8.bh (hks.is (decide_eq_true hka)) (fun _ H9 g9 => ?_) (fun z => nomatch z)
      have hne : 0 < (W.cs L i).length := by
        obtain ⟨a, pa⟩ := ok.hasNbr (by rcases big with h | h <;> omega) hi
        rw [hcl]
        exact List.length_pos_of_mem (ok.mem_nbr.mpr pa)
      cases hcs : W.cs L i with
      | nil => rw [hcs] at hne; exact absurd hne (by simp)
      | cons c r =>
        refine s_app (K := K) (B := B8) g9.bh (g9.hh _ _ hf8) (ax_var rfl) (ev_ixL (i := 0) (ev_var rfl hcv) ev_int (list_at (x := c) (by rw [hcs]; rfl))) (by rw [List.length_map]; omega) fun v B10 H10 g10 d10 => ?_
        rw [Dpi d10]
        exact step H10 c ((Gr.ext g8.bh (g9.hh.trans g10.hh))) (by rw [hcs, hka]; rfl)
    · refine s_if (B := B8) (b := false) g8.bh (hks.is (decide_eq_false hka)) (fun z => nomatch z) (fun _ H9 g9 => ?_)
      refine s_if (B := B8) (b := decide (1 < (W.cs L i).length)) g9.bh (et_test (K := K) ((ev_I0b (g := fun i j => decide (j < i)) (ev_lenL (ev_var rfl hcv)) ev_int).is (by rw [List.length_map]; exact congrArg PyData.bool (decide_eq_decide.mpr (by omega))))) (fun hb H10 g10 => ?_) (fun hb H10 g10 => ?_)
      · have hb := of_decide_eq_true hb
        cases hcs : W.cs L i with
        | nil => rw [hcs] at hb; exact absurd hb (by simp)
        | cons c r =>
          cases r with
          | nil => rw [hcs] at hb; exact absurd hb (by simp)
          | cons d r =>
            refine s_app (K := K) (B := B8) g10.bh (g10.hh _ _ (g9.hh _ _ hf8)) (ax_var rfl) (ev_I0 (g := fun i j => i + j) (ev_ixL (i := 0) (ev_var rfl hcv) ev_int (list_at (x := c) (by rw [hcs]; rfl))) (ev_ixL (i := 1) (ev_var rfl hcv) ev_int (list_at (x := d) (by rw [hcs]; rfl)))) (by rw [List.length_map]; omega) fun v B11 H11 g11 d11 => ?_
            rw [Dpi d11]
            exact step H11 (c + d) (Gr.ext g8.bh ((g9.hh.trans g10.hh).trans g11.hh)) (by
              rw [hcs]
              cases k with
              | all => exact absurd rfl hka
              | places => rfl
              | ties => rfl)
      · have hb := of_decide_eq_false hb
        refine ⟨_, _, rfl, (x8.trans g9.hh).trans g10.hh, (xb8.trans g9.hh).trans g10.hh, ?_⟩
        have hp : pick k (W.cs L i) = none := by
          cases hcs : W.cs L i with
          | nil =>
            cases k with
            | all => exact absurd rfl hka
            | places => rfl
            | ties => rfl
          | cons c r =>
            cases r with
            | cons d r => rw [hcs] at hb; exact absurd (show 1 < (c :: d :: r).length by simp) hb
            | nil =>
              cases k with
              | all => exact absurd rfl hka
              | places => rfl
              | ties => rfl
        rw [tsn, hp]
        simp only [Option.toList_none, List.append_nil]
        exact g10.hh _ _ (g9.hh _ _ hf8)
  · rintro σ H' ⟨x5, x6, rfl, x, xb, hf⟩
    try dsimp only
    have gg : Gr B H B5 H' := ⟨g5.bb, xb, x, fun p hp => by
      rcases g5.fp p hp with z | z
      · exact .inl z
      · exact .inr (eh4.free z)⟩
    have gO := gg.own hflH hfl5 hf
    refine s_ret (K := K) gO.bh (ev_minL (ns := (W.tsL L k W.n).map fun (u : Nat) => (u : Int)) (m := (m : Int)) ((ev_var rfl (.lst (.inl (.inl upd_same)) (da_nats _))).is (by rw [ints_map])) (by rw [List.length_map]; exact List.length_pos_of_mem hts.1) fun y hy hyl => ?_) fun v B9 H9 g9 d9 => q v B9 H9 (gO.trans g9) (by rw [hm]; exact d9)
    obtain ⟨t, ht, rfl⟩ := List.mem_map.mp hy
    have h1 := hts.2 t ht
    have h2 := hyl (m : Int) (List.mem_map.mpr ⟨m, hts.1, rfl⟩)
    omega
end
end Fx
set_option Elab.async false
set_option linter.all false
set_option maxRecDepth 100000
set_option autoImplicit false
namespace Fx
open PySem PySem.Spec PyProof.Rows L2
/-! ### a tuple that is tracked -/
def Du (K : PySem.W.Frag) (B : Hp) (v : V) (ds : List PyData) : Prop := ∃ p xs, v = .ref p ∧ B p = some (.tup xs) ∧ DpAll K B xs ds
section
variable {K : PySem.W.Frag} {σ : Sg} {B H : Hp} {ta te : TE} {ds : List PyData} {D : Ends}
theorem s_tupL {i : Nat} (x : Ex B H) (ha : EvD K ta σ B (.list ds)) (k : ∀ p xs B' H', Gr B H B' H' → B' p = some (.tup xs) → DpAll K B' xs ds → D.nx (σ.set i (some (.ref p))) H') : tAsg (tCB (tupR K) (tCons ta tNil)) (gName i) D σ H :=
  ha H x _ fun v B1 H1 g1 d1 => by
    obtain ⟨a, xs, rfl, hs, hd⟩ := Dpl d1
    exact ⟨a, xs, rfl, .inl ⟨g1.bh.sl hs, fun l hl => k l xs _ _ (g1.trans (Gr.new g1.bh hl)) upd_same (dms (Ex.new (g1.bh.free hl)) hd)⟩⟩
end
section
variable {σ : Sg} {H : Hp} {td ta tb te : TE} {t : TA} {g : TG} {tt : TT} {vs : List Nat} {Q : VK} {r : R2} {sp : Sp} {dvs : List V} {E : XK}
theorem lcV_ (h : td σ H fun x H1 => ∃ d kvs, x = .ref d ∧ H1 d = some (.dT kvs) ∧ ∀ (o : Obj) (L : Addr), (upd H1 d (.frz o (.dT kvs))) L = none → LcW (Itw d o kvs) g tt te vs σ (upd H1 d (.frz o (.dT kvs))) L Q) : tLc (iValsW td) g tt te vs σ H Q := h
theorem op_ (h : ta σ H fun x H1 => tb σ H1 fun y H2 => r x y H2 Q) : tOp r ta tb σ H Q := h
theorem call_ (h : t σ H fun us H1 => sp (us ++ dvs) H1 Q E) : tCall sp dvs E t σ H Q := h
end
/-! ### things by their codes -/
def kOf (c : List Nat) : List Key := c.map fun (u : Nat) => (Sum.inl (u : Int) : Key)
theorem kOf_inj {a b : List Nat} (h : kOf a = kOf b) : a = b := by
  unfold kOf at h
  exact (List.map_inj_right fun x y e => by have := Sum.inl.inj e; omega).mp h
theorem kOf_kV (c : List Nat) : (kOf c).map kV = c.map fun (u : Nat) => V.int (u : Int) := by
  unfold kOf
  rw [List.map_map]
  rfl
noncomputable def grp (W : Web) (L : List Nat) (T : List Th) (c : List Nat) : List Th := T.filter fun t => decide (W.cd L t = c)
def kvsOf (ps : List (List Nat × Addr)) : List (List Key × V) := ps.map fun p => (kOf p.1, V.ref p.2)
theorem valV_none {ps : List (List Nat × Addr)} {c : List Nat} (h : c ∉ ps.map (·.1)) : valV (kvsOf ps) (kOf c) = none := by
  induction ps with
  | nil => rfl
  | cons p ps ih =>
    rw [List.map_cons, List.mem_cons, not_or] at h
    show valV ((kOf p.1, V.ref p.2) :: kvsOf ps) (kOf c) = none
    rw [valV_neg (fun e => h.1 (kOf_inj e).symm)]
    exact ih h.2
theorem valV_some {ps : List (List Nat × Addr)} {c : List Nat} {a : Addr} (hn : (ps.map (·.1)).Nodup) (h : (c, a) ∈ ps) : valV (kvsOf ps) (kOf c) = some (V.ref a) := by
  induction ps with
  | nil => simp at h
  | cons p ps ih =>
    rw [List.map_cons, List.nodup_cons] at hn
    show valV ((kOf p.1, V.ref p.2) :: kvsOf ps) (kOf c) = _
    rcases List.mem_cons.mp h with e | e
    · rw [← e, valV_pos rfl]
    · rw [valV_neg (fun e2 => hn.1 (by
        have := kOf_inj e2
        show p.1 ∈ _
        rw [this]
        exact List.mem_map.mpr ⟨_, e, rfl⟩))]
      exact ih hn.2 e
structure BcW (K : PySem.W.Frag) (W : Web) (L : List Nat) (B H0 : Hp) (d : Addr) (T : List Th) (ps : List (List Nat × Addr)) (H : Hp) : Prop where
  ex : Ex H0 H
  xb : Ex B H
  at_ : H d = some (.dT (kvsOf ps))
  nd1 : (ps.map (·.1)).Nodup
  nd2 : (ps.map (·.2)).Nodup
  mem : ∀ c, c ∈ ps.map (·.1) ↔ c ∈ T.map (W.cd L)
  row : ∀ p, p ∈ ps → H0 p.2 = none ∧ B p.2 = none ∧ p.2 ≠ d ∧ ∃ xs, H p.2 = some (.lst xs) ∧ DpAll K B xs ((grp W L T p.1).map thD)
theorem BcW.up {K : PySem.W.Frag} {W : Web} {L : List Nat} {B H0 H H' : Hp} {d : Addr} {T : List Th} {ps : List (List Nat × Addr)} (x : BcW K W L B H0 d T ps H) (e : Ex H H') : BcW K W L B H0 d T ps H' :=
  ⟨x.ex.trans e, x.xb.trans e, e _ _ x.at_, x.nd1, x.nd2, x.mem, fun p hp => by
    obtain ⟨h1, h2, h3, xs, h4, h5⟩ := x.row p hp
    exact ⟨h1, h2, h3, xs, e _ _ h4, h5⟩⟩
theorem grp_len {W : Web} {L : List Nat} (T : List Th) : ∀ {cs : List (List Nat)}, (∀ c, c ∈ cs ↔ c ∈ T.map (W.cd L)) → T.Nodup → ((T.map (W.cd L)).Nodup ↔ ∀ c, c ∈ cs → (grp W L T c).length ≤ 1) := by
  intro cs hc hn
  constructor
  · intro h c _
    have : (T.filter fun t => decide (W.cd L t = c)).length ≤ 1 := by
      have h2 : ((T.filter fun t => decide (W.cd L t = c)).map (W.cd L)).Nodup := List.Pairwise.sublist (List.Sublist.map _ List.filter_sublist) h
      cases q : T.filter fun t => decide (W.cd L t = c) with
      | nil => simp
      | cons a r =>
        cases r with
        | nil => simp
        | cons b r =>
          rw [q] at h2
          have ma : a ∈ T.filter fun t => decide (W.cd L t = c) := by rw [q]; exact List.mem_cons_self
          have mb : b ∈ T.filter fun t => decide (W.cd L t = c) := by rw [q]; exact List.mem_cons_of_mem _ List.mem_cons_self
          have ea := of_decide_eq_true (List.mem_filter.mp ma).2
          have eb := of_decide_eq_true (List.mem_filter.mp mb).2
          rw [List.map_cons, List.map_cons, List.nodup_cons] at h2
          exact absurd (List.mem_cons.mpr (.inl (ea.trans eb.symm))) h2.1
    exact this
  · intro h
    refine List.pairwise_map.mpr (List.Pairwise.imp_of_mem (fun {s t} hs ht hne e => ?_) hn)
    have hm : W.cd L s ∈ cs := (hc _).mpr (List.mem_map.mpr ⟨s, hs, rfl⟩)
    have h1 := h _ hm
    have h2 : ([s, t] : List Th).length ≤ (grp W L T (W.cd L s)).length := nd_len (by simp [hne]) fun x hx => by
      rcases List.mem_cons.mp hx with z | z
      · rw [z]; exact List.mem_filter.mpr ⟨hs, decide_eq_true rfl⟩
      · rw [List.mem_singleton.mp z]; exact List.mem_filter.mpr ⟨ht, decide_eq_true e.symm⟩
    have h3 : ([s, t] : List Th).length = 2 := rfl
    omega
abbrev sBc : Stmt := topS 21
abbrev nBc : List Str := ["web", "looks", "kind", "table", "found", "thing", "code", "look"]
theorem scBc : FnScope nBc ["web", "looks", "kind"] (defScope sBc) := ⟨rfl, rfl, rfl, by decide +kernel, rfl, by decide +kernel, by decide +kernel⟩
def spBc (K : PySem.W.Frag) : Sp := fun vs H Q _ => ∃ (B : Hp) (W : Web) (L : List Nat) (k : Kd), Ex B H ∧ DpAll K B vs [webD W, nD L, kdD k] ∧ W.Ok ∧ W.Lk L ∧
  ∀ (d : Addr) (kvs : List (List Key × V)) (gs : List (List Th)) (B' H' : Hp), Gr B H B' H' → B' d = none → H d = none → H' d = some (.dT kvs) → DpAll K B' (kvs.map (·.2)) (gs.map fun g => .list (g.map thD)) → (((W.ths k).map (W.cd L)).Nodup ↔ ∀ g, g ∈ gs → g.length ≤ 1) → (∀ g, g ∈ gs → g.length ≤ 100) → gs.length ≤ 100 → Q (.ref d) H'
section
variable {P : Program} {w : World} {K : PySem.W.Frag} {mg : Str → Option Value} {base : Heap}
theorem ok_bc {f : Addr} {fd : FuncData} (D : Df K mg "by_code" sBc ["web", "looks", "kind"] f fd) (T : Bt mg) (G1 : Gd P w K mg base "table_of" ["web"] 3 (spD K rTab)) (G2 : Gd P w K mg base "things_of" ["web", "kind"] 1 (spD K rThs)) (G3 : Gd P w K mg base "far_by" ["table", "look", "thing"] 1 (spD K rFb)) :
    Gd P w K mg base "by_code" ["web", "looks", "kind"] 4 (spBc K) := by
  refine gd_of (N := nBc) D scBc (fun vs H Q E ⟨B, W, L, k, _, hd, _⟩ => da_len hd) fun cdv A outer s H vs Q E hr ⟨B, W, L, k, e, hd, ok, hL, q⟩ => ?_
  obtain ⟨wv, lv, kv, rfl, hw, hl, hk⟩ := da3 hd
  have few := hL.few ok
  have tlen := ths_len ok k
  refine ⟨_, pss_cons (ps_set (i := 3) scBc.nd rfl (.inr rfl) (pe_fn G1 hr (pa_cons (pv 0) pa_nil)))
    (pss_cons (ps_set (i := 4) scBc.nd rfl (.inl rfl) pe_dnewT)
    (pss_cons (ps_for PassesOwn.never rfl (be_lstI K (pe_fn G2 hr (pa_cons (pv 0) (pa_cons (pv 2) pa_nil)))) (pg_name (i := 5) scBc.nd rfl (.inr rfl))
      (pss_cons (ps_set (i := 6) scBc.nd rfl (.inl rfl) (be_tuple K T.tuple (pe_lc (own := [("look", 7)]) (g := gName 7) (tt := tYes) rfl scBc.nd (be_lstI K (pv 1)) (blkOk_by (N := nBc) (sc := defScope sBc) (by decide +kernel)) (fun _ _ _ _ _ => pg_name (i := 7) scBc.nd rfl (Or.inl rfl)) (fun _ _ _ _ _ => pts_nil)
          (fun _ _ _ _ _ => pe_fn G3 hr (pa_cons (pv 3) (pa_cons (pv 7) (pa_cons (pv 5) pa_nil)))))))
      (pss_cons (ps_if (pt_cmp (pc_dnotin (u1 hr) (pv 6) (pv 4)) rfl) (pss_one (ps_dput (u1 hr) (pv 4) (pv 6) (pe_lst pa_nil) rfl)) pss_nil)
      (pss_one (ps_expr (pe_bm PySem.F.plainAttrs_list PySem.F.slot_list_append PySem.F.type_list_append mt_append (pe_dget (u1 hr) (pv 4) (pv 6) (fun _ _ => rfl)) (pa_cons (pv 5) pa_nil)))))))
    (pss_one (ps_ret (pv 4))))), ?_⟩
  -- table = table_of(web)
  refine q_asg (K := K) e (ev_call (ea1 (ev_var rfl hw)) ⟨W, ok, rfl, rfl⟩) fun tv B1 H1 g1 htv => ?_
  have hw1 := dm g1.bb hw
  have hl1 := dm g1.bb hl
  have hk1 := dm g1.bb hk
  -- found = {}
  refine sq (as_ ?_)
  intro d hd0
  have hdH : H d = none := g1.hh.free hd0
  have hdB1 : B1 d = none := g1.bh.free hd0
  -- for thing in things_of(web, kind)
  try dsimp only
  refine sq (forL_ (K := K) (B := B1) (ev_call (ea2 (ev_var rfl hw1) (ev_var rfl hk1)) ⟨W, k, ok, rfl, rfl⟩) (g1.bh.mut hdB1) fun a xs B2 H2 g2 hs hda => ?_)
  have hlen := da_len hda
  rw [List.length_map] at hlen
  have hdB2 : B2 d = none := g2.off hdB1 (by rw [upd_same]; exact fun z => nomatch z)
  have eH2 : Ex H H2 := (g1.hh.mut hdH).trans g2.hh
  have g02 : Gr B H B2 H2 := ⟨g1.bb.trans g2.bb, g2.bh, eH2, fun p hp => by
    rcases g2.fp p hp with z | z
    · exact g1.fp p z
    · exact .inr ((g1.hh.mut hdH).free z)⟩
  refine for_list (xs := xs) (fun i σ H' => ∃ x5 x6 ps, σ = [some wv, some lv, some kv, some tv, some (.ref d), x5, x6, none] ∧ BcW K W L B2 H d ((W.ths k).take i) ps H') ?_ ?_ ?_ ?_
  · refine ⟨none, none, [], rfl, eH2, g2.bh, g2.hh _ _ upd_same, List.nodup_nil, List.nodup_nil, fun c => ?_, fun p hp => ?_⟩
    · simp
    · simp at hp
  · rintro i σ H' _ ⟨x5, x6, ps, rfl, bw⟩
    exact bw.xb.sl hs
  · rintro i x σ H' hx ⟨x5, x6, ps, rfl, bw⟩
    obtain ⟨dx, hdx1, hdx2⟩ := da_getV hda hx
    rw [List.getElem?_map] at hdx1
    cases hti : (W.ths k)[i]? with
    | none => rw [hti] at hdx1; cases hdx1
    | some t =>
      rw [hti] at hdx1
      cases hdx1
      have htT := Web.isTh_of (List.mem_of_getElem? hti)
      have tk : (W.ths k).take (i + 1) = (W.ths k).take i ++ [t] := by
        rw [List.take_add_one, hti] <;> rfl
      have b12 : Ex B1 B2 := g2.bb
      -- code = tuple([..])
      try dsimp only
      refine sq (s_tupL (K := K) (B := B2) (i := 6) (ds := (W.cd L t).map fun (u : Nat) => PyData.int (u : Int)) bw.xb ((ef_lcL (K := K) L (fun (u : Nat) => PyData.int (u : Int)) (fun _ => true) (fun l => .int (W.dT l t : Nat)) (ev_var rfl (dm b12 hl1)) (by omega) (fun _ => rfl) (fun _ _ _ _ _ _ => tYes_ (K := K))
        (fun l hlm _ y B' e' hy => ev_call (ea3 (ev_var rfl (dm (b12.trans e') htv)) (ev_var rfl hy) (ev_var rfl (dm e' hdx2))) ⟨W, l, t, ok, hL.lt hlm, htT, rfl, rfl⟩)).toD.is (by rw [List.filter_eq_self.mpr (fun _ _ => rfl)]; unfold Web.cd; rw [List.map_map]; rfl)) fun b bs B5 H5 g5 hb5 hbs => ?_)
      have hbs := da_natsV hbs
      subst hbs
      have bw5 := bw.up g5.hh
      have hbH : H5 b = some (.tup ((kOf (W.cd L t)).map kV)) := by rw [kOf_kV]; exact g5.bh _ _ hb5
      have hdb : b ≠ d := ne_of hbH bw5.at_ (by intro z; cases z)
      -- found[code].append(thing), from any state in which the code is there
      have fin : ∀ (DD : Ends) (ps' : List (List Nat × Addr)) (H7 : Hp), (∀ σ' H', (∃ x5 x6 ps, σ' = [some wv, some lv, some kv, some tv, some (.ref d), x5, x6, none] ∧ BcW K W L B2 H d ((W.ths k).take (i + 1)) ps H') → DD.nx σ' H') → Ex H H7 → Ex B2 H7 → H7 d = some (.dT (kvsOf ps')) → (ps'.map (·.1)).Nodup → (ps'.map (·.2)).Nodup → (∀ c, c ∈ ps'.map (·.1) ↔ c ∈ ((W.ths k).take (i + 1)).map (W.cd L)) → H7 b = some (.tup ((kOf (W.cd L t)).map kV)) →
          (∀ p, p ∈ ps' → H p.2 = none ∧ B2 p.2 = none ∧ p.2 ≠ d ∧ ∃ xs, H7 p.2 = some (.lst xs) ∧ DpAll K B2 xs ((grp W L ((W.ths k).take i) p.1).map thD)) →
          tDrop (tBM K "list" rAppend (tDGet (tVar 4) (tVar 6)) (tCons (tVar 5) tNil)) DD [some wv, some lv, some kv, some tv, some (.ref d), some x, some (.ref b), none] H7 := by
        intro DD ps' H7 z0 z1 z2 z3 z4 z5 z6 z7 z8
        have hc : W.cd L t ∈ ps'.map (·.1) := (z6 _).mpr (List.mem_map.mpr ⟨t, by rw [tk]; exact List.mem_append_right _ (List.mem_singleton.mpr rfl), rfl⟩)
        obtain ⟨⟨c0, a0⟩, hp0, hc0⟩ := List.mem_map.mp hc
        simp only at hc0
        subst hc0
        obtain ⟨y1, y2, y3, xs0, y4, y5⟩ := z8 _ hp0
        have axd : Ax (tDGet (tVar 4) (tVar 6)) [some wv, some lv, some kv, some tv, some (.ref d), some x, some (.ref b), none] H7 (.ref a0) := fun Q' q' => ⟨_, rfl, _, rfl, d, .ref a0, rfl, (valV_some z4 hp0 ▸ DGet.t z3 z7), q'⟩
        refine s_appA (K := K) y4 axd (ax_var rfl) ?_ (z0 _ _ ⟨_, _, ps', rfl, z1.mut y1, z2.mut y2, ?_, z4, z5, z6, fun p hp => ?_⟩)
        · have := da_len y5
          rw [List.length_map] at this
          have q1 := List.length_filter_le (fun u => decide (W.cd L u = W.cd L t)) ((W.ths k).take i)
          rw [List.length_take] at q1
          have : xs0.length = (List.filter (fun u => decide (W.cd L u = W.cd L t)) ((W.ths k).take i)).length := this
          omega
        · rw [upd_ne (Ne.symm y3)]
          exact z3
        · obtain ⟨w1, w2, w3, xs1, w4, w5⟩ := z8 p hp
          have eg : grp W L ((W.ths k).take (i + 1)) p.1 = grp W L ((W.ths k).take i) p.1 ++ (if W.cd L t = p.1 then [t] else []) := by
            unfold grp
            rw [tk, List.filter_append, List.filter_cons]
            congr 1
            by_cases h : W.cd L t = p.1
            · rw [if_pos h, if_pos (decide_eq_true h)]
              rfl
            · rw [if_neg h, if_neg (by rw [decide_eq_false h]; decide)]
              rfl
          by_cases h : p.2 = a0
          · have hpe : p = (W.cd L t, a0) := by
              obtain ⟨i1, hi1, e1⟩ := List.mem_iff_getElem.mp hp
              obtain ⟨i2, hi2, e2⟩ := List.mem_iff_getElem.mp hp0
              have := (List.getElem_inj (h₀ := by rw [List.length_map]; exact hi1) (h₁ := by rw [List.length_map]; exact hi2) z5).mp (by rw [List.getElem_map, List.getElem_map, e1, e2]; exact h)
              subst this
              rw [← e1, e2]
            subst hpe
            refine ⟨w1, w2, w3, xs0 ++ [x], upd_same, ?_⟩
            rw [eg, if_pos rfl, List.map_append]
            exact da_snoc y5 hdx2
          · refine ⟨w1, w2, w3, xs1, by rw [upd_ne h]; exact w4, ?_⟩
            have hne : ¬ W.cd L t = p.1 := fun z => h (by
              obtain ⟨i1, hi1, e1⟩ := List.mem_iff_getElem.mp hp
              obtain ⟨i2, hi2, e2⟩ := List.mem_iff_getElem.mp hp0
              have := (List.getElem_inj (h₀ := by rw [List.length_map]; exact hi1) (h₁ := by rw [List.length_map]; exact hi2) z4).mp (by rw [List.getElem_map, List.getElem_map, e1, e2]; exact z.symm)
              subst this
              have : p = (W.cd L t, a0) := by rw [← e1, e2]
              rw [this])
            rw [eg, if_neg hne, List.append_nil]
            exact w5
      -- if code not in found
      have hmem : ∀ c, c ∈ ((W.ths k).take (i + 1)).map (W.cd L) ↔ c ∈ ((W.ths k).take i).map (W.cd L) ∨ c = W.cd L t := fun c => by
        rw [tk, List.map_append, List.mem_append]
        simp
      refine sq ?_
      refine ⟨_, rfl, _, rfl, d, _, rfl, DGet.t bw5.at_ hbH, _, rfl, ?_⟩
      by_cases hin : W.cd L t ∈ ps.map (·.1)
      · obtain ⟨⟨c0, a0⟩, hp0, hc0⟩ := List.mem_map.mp hin
        simp only at hc0
        subst hc0
        rw [valV_some bw5.nd1 hp0]
        refine fin _ ps H5 (fun σ' H' h => h) bw5.ex bw5.xb bw5.at_ bw5.nd1 bw5.nd2 (fun c => ?_) hbH bw5.row
        rw [hmem, bw5.mem]
        constructor
        · exact .inl
        · rintro (z | z)
          · exact z
          · rw [z]
            exact (bw5.mem _).mp hin
      · rw [valV_none hin]
        -- found[code] = []
        refine ⟨Nat.zero_le _, fun a0 ha0 => ?_⟩
        have hda : d ≠ a0 := ne_of_none bw5.at_ ha0
        have hba : b ≠ a0 := ne_of_none hbH ha0
        have plen : ps.length ≤ 100 := by
          have h1 := nd_len bw5.nd1 (m := ((W.ths k).take i).map (W.cd L)) fun c hc => (bw5.mem c).mp hc
          rw [List.length_map, List.length_map, List.length_take] at h1
          omega
        refine ⟨.ref d, rfl, .ref b, rfl, d, _, rfl, DPut.t (k := kOf (W.cd L t)) (kvs := kvsOf ps) (by rw [upd_ne hda]; exact bw5.at_) (by rw [upd_ne hba]; exact hbH) (smallt (by unfold kvsOf; rw [List.length_map]; omega)), ?_⟩
        rw [putK_new _ (valV_none hin)]
        have ekv : kvsOf ps ++ [(kOf (W.cd L t), V.ref a0)] = kvsOf (ps ++ [(W.cd L t, a0)]) := by
          unfold kvsOf
          rw [List.map_append]
          rfl
        rw [ekv]
        have ha0H : H a0 = none := bw5.ex.free ha0
        have ha0B : B2 a0 = none := bw5.xb.free ha0
        refine fin _ (ps ++ [(W.cd L t, a0)]) _ (fun σ' H' h => h) ((bw5.ex.mut ha0H).mut hdH) ((bw5.xb.mut ha0B).mut hdB2) upd_same ?_ ?_ (fun c => ?_) (by rw [upd_ne hdb, upd_ne hba]; exact hbH) (fun p hp => ?_)
        · rw [List.map_append]
          exact List.nodup_append.mpr ⟨bw5.nd1, by simp, fun c hc c' hc' e => by
            simp only [List.map_cons, List.map_nil, List.mem_singleton] at hc'
            exact hin (by rw [← hc', ← e]; exact hc)⟩
        · rw [List.map_append]
          refine List.nodup_append.mpr ⟨bw5.nd2, by simp, fun c hc c' hc' e => ?_⟩
          simp only [List.map_cons, List.map_nil, List.mem_singleton] at hc'
          obtain ⟨p, hp, hpe⟩ := List.mem_map.mp hc
          obtain ⟨_, _, _, xs1, hx1, _⟩ := bw5.row p hp
          rw [hpe, e, hc', ha0] at hx1
          cases hx1
        · rw [List.map_append, List.mem_append, hmem, bw5.mem]
          simp
        · rcases List.mem_append.mp hp with hp | hp
          · obtain ⟨w1, w2, w3, xs1, w4, w5⟩ := bw5.row p hp
            exact ⟨w1, w2, w3, xs1, by rw [upd_ne w3, upd_ne (ne_of_none w4 ha0)]; exact w4, w5⟩
          · rw [List.mem_singleton] at hp
            rw [hp]
            refine ⟨ha0H, ha0B, Ne.symm hda, [], by rw [upd_ne (Ne.symm hda), upd_same], ?_⟩
            have : grp W L ((W.ths k).take i) (W.cd L t) = [] := by
              unfold grp
              rw [List.filter_eq_nil_iff]
              intro u hu hd2
              have := of_decide_eq_true hd2
              exact hin ((bw5.mem _).mpr (List.mem_map.mpr ⟨u, hu, this⟩))
            rw [this]
            exact .nil
  · rintro σ H' ⟨x5, x6, ps, rfl, bw⟩
    rw [hlen, List.take_length] at bw
    try dsimp only
    refine rt_ (te := tVar 4) ⟨_, rfl, ?_⟩
    have g03 : Gr B H B2 H' := ⟨g02.bb, bw.xb, bw.ex, g02.fp⟩
    obtain ⟨B3, g3, e3, h3, n3⟩ := g03.adds (fun a => a ∈ ps.map (·.2)) (fun a ha => by
      obtain ⟨p, hp, rfl⟩ := List.mem_map.mp ha
      obtain ⟨w1, w2, _⟩ := bw.row p hp
      exact ⟨w1, w2⟩)
    have hdB : B3 d = none := by
      rw [n3 d (fun ha => by
        obtain ⟨p, hp, hpe⟩ := List.mem_map.mp ha
        exact (bw.row p hp).2.2.1 hpe)]
      exact hdB2
    have plen : ps.length ≤ 100 := by
      have h1 := nd_len bw.nd1 (m := (W.ths k).map (W.cd L)) fun c hc => (bw.mem c).mp hc
      rw [List.length_map, List.length_map] at h1
      omega
    refine q d (kvsOf ps) (ps.map fun p => grp W L (W.ths k) p.1) B3 H' g3 hdB hdH bw.at_ ?_ ?_ ?_ ?_
    · refine da_of (by unfold kvsOf; simp only [List.length_map]) fun i v dd h1 h2 => ?_
      unfold kvsOf at h1
      simp only [List.getElem?_map] at h1 h2
      cases hi : ps[i]? with
      | none => rw [hi] at h1; cases h1
      | some p =>
        rw [hi] at h1 h2
        cases h1
        cases h2
        have hp := List.mem_of_getElem? hi
        obtain ⟨w1, w2, w3, xs1, w4, w5⟩ := bw.row p hp
        exact .lst (.inl (.inl (h3 _ _ (List.mem_map.mpr ⟨p, hp, rfl⟩) w4))) (dms e3 w5)
    · rw [grp_len (W.ths k) bw.mem (ok.nd_ths k)]
      constructor
      · intro h g hg
        obtain ⟨p, hp, rfl⟩ := List.mem_map.mp hg
        exact h p.1 (List.mem_map.mpr ⟨p, hp, rfl⟩)
      · intro h c hc
        obtain ⟨p, hp, rfl⟩ := List.mem_map.mp hc
        exact h _ (List.mem_map.mpr ⟨p, hp, rfl⟩)
    · intro g hg
      obtain ⟨p, hp, rfl⟩ := List.mem_map.mp hg
      exact Nat.le_trans (List.length_filter_le _ _) tlen
    · rw [List.length_map]
      exact plen
/-! ### likes_by, is_known -/
def gsD (gs : List (List Th)) : PyData := .list (gs.map fun g => .list (g.map thD))
abbrev sLb : Stmt := topS 22
abbrev nLb : List Str := ["web", "looks", "kind", "things"]
theorem scLb : FnScope nLb ["web", "looks", "kind"] (defScope sLb) := ⟨rfl, rfl, rfl, by decide +kernel, rfl, by decide +kernel, by decide +kernel⟩
def spLb (K : PySem.W.Frag) : Sp := fun vs H Q _ => ∃ (B : Hp) (W : Web) (L : List Nat) (k : Kd), Ex B H ∧ DpAll K B vs [webD W, nD L, kdD k] ∧ W.Ok ∧ W.Lk L ∧
  ∀ (v : V) (gs : List (List Th)) (B' H' : Hp), Gr B H B' H' → Dp K B' v (gsD gs) → (gs = [] ↔ ((W.ths k).map (W.cd L)).Nodup) → Q v H'
abbrev sIk : Stmt := topS 23
abbrev nIk : List Str := ["web", "looks", "kind"]
theorem scIk : FnScope nIk ["web", "looks", "kind"] (defScope sIk) := ⟨rfl, rfl, rfl, by decide +kernel, rfl, by decide +kernel, by decide +kernel⟩
def rIk (ds : List PyData) (r : PyData) : Prop := ∃ (W : Web) (L : List Nat) (k : Kd), W.Ok ∧ W.Lk L ∧ ds = [webD W, nD L, kdD k] ∧ r = .bool (decide ((W.ths k).map (W.cd L)).Nodup)
theorem sh_th (t : Th) : (thD t).canLay0 = true ∧ (thD t).depth ≤ 1 := by
  cases t with
  | pl v => simp [thD, PyData.canLay0, PyData.depth]
  | ti a b => simp [thD, PyData.canLay0, PyData.canLayAll0, PyData.depth, PyData.depthAll]
theorem sh_thl : ∀ g : List Th, PyData.canLayAll0 (g.map thD) = true ∧ PyData.depthAll (g.map thD) ≤ 1
  | [] => by simp [PyData.canLayAll0, PyData.depthAll]
  | t :: g => by
    have ⟨h1, h2⟩ := sh_thl g
    have ⟨h3, h4⟩ := sh_th t
    refine ⟨?_, ?_⟩
    · rw [List.map_cons]
      simp only [PyData.canLayAll0, h1, h3, Bool.and_true]
    · rw [List.map_cons]
      simp only [PyData.depthAll]
      exact Nat.max_le.mpr ⟨h4, h2⟩
theorem sh_gsl : ∀ gs : List (List Th), PyData.canLayAll0 (gs.map fun g => PyData.list (g.map thD)) = true ∧ PyData.depthAll (gs.map fun g => PyData.list (g.map thD)) ≤ 2
  | [] => by simp [PyData.canLayAll0, PyData.depthAll]
  | g :: gs => by
    have ⟨h1, h2⟩ := sh_gsl gs
    have ⟨h3, h4⟩ := sh_thl g
    refine ⟨?_, ?_⟩
    · rw [List.map_cons]
      simp only [PyData.canLayAll0, PyData.canLay0, h1, h3, Bool.and_true]
    · rw [List.map_cons]
      simp only [PyData.depthAll, PyData.depth]
      exact Nat.max_le.mpr ⟨by omega, h2⟩
theorem sh_gs (gs : List (List Th)) : SeqAt.shaped (gsD gs) = true := by
  have ⟨h1, h2⟩ := sh_gsl gs
  have e : PyData.depth (gsD gs) ≤ 64 := by
    unfold gsD
    simp only [PyData.depth]
    omega
  show (PyData.canLay0 (gsD gs) && decide (PyData.depth (gsD gs) ≤ 64)) = true
  rw [decide_eq_true e]
  unfold gsD
  simp only [PyData.canLay0, h1, Bool.and_true]
theorem sh_nil : SeqAt.shaped (.list []) = true := by
  have e : PyData.depth (.list []) ≤ 64 := by simp [PyData.depth, PyData.depthAll]
  show (PyData.canLay0 (.list []) && decide (PyData.depth (.list []) ≤ 64)) = true
  rw [decide_eq_true e]
  simp [PyData.canLay0, PyData.canLayAll0]
theorem eqv_nil (gs : List (List Th)) : PyData.eqv (gsD gs) (.list []) = decide (gs = []) := by
  unfold gsD
  cases gs with
  | nil => simp [PyData.eqv, PyData.eqvAll]
  | cons g gs => simp [PyData.eqv, PyData.eqvAll]
theorem ok_lb {f : Addr} {fd : FuncData} (D : Df K mg "likes_by" sLb ["web", "looks", "kind"] f fd) (T : Bt mg) (G1 : Gd P w K mg base "looks_asked" ["web", "looks"] 1 (spD K rLa)) (G2 : Gd P w K mg base "by_code" ["web", "looks", "kind"] 4 (spBc K)) :
    Gd P w K mg base "likes_by" ["web", "looks", "kind"] 5 (spLb K) := by
  refine gd_of (N := nLb) D scLb (fun vs H Q E ⟨B, W, L, k, _, hd, _⟩ => da_len hd) fun cdv A outer s H vs Q E hr ⟨B, W, L, k, e, hd, ok, hL, q⟩ => ?_
  obtain ⟨wv, lv, kv, rfl, hw, hl, hk⟩ := da3 hd
  refine ⟨_, pss_cons (ps_expr (pe_fn G1 hr (pa_cons (pv 0) (pa_cons (pv 1) pa_nil))))
    (pss_one (ps_ret (pe_lc (own := [("things", 3)]) (g := gName 3) rfl scLb.nd (pi_valuesW (pe_fn G2 hr (pa_cons (pv 0) (pa_cons (pv 1) (pa_cons (pv 2) pa_nil))))) (blkOk_by (N := nLb) (sc := defScope sLb) (by decide +kernel)) (fun _ _ _ _ _ => pg_name (i := 3) scLb.nd rfl (Or.inl rfl))
      (fun _ _ _ _ _ => pts_one (pt_cmpR op_gt (be_len K T.len (pv 3)) pe_int (nomark _))) (fun _ _ _ _ _ => pv 3)))), ?_⟩
  refine q_drop (K := K) e (ev_call (ea2 (ev_var rfl hw) (ev_var rfl hl)) ⟨W, L, ok, hL, rfl, rfl⟩) fun v B1 H1 g1 d1 => ?_
  refine rt_ ?_
  -- by_code(web, looks, kind)
  refine lcV_ (call_ ?_)
  refine (ea3 (K := K) (B := B1) (σ := [some wv, some lv, some kv, none]) (ev_var (i := 0) rfl (dm g1.bb hw)) (ev_var (i := 1) rfl (dm g1.bb hl)) (ev_var (i := 2) rfl (dm g1.bb hk))) H1 g1.bh _ fun us B2 H2 g2 d2 => ?_
  show spBc K (us ++ []) H2 _ _
  rw [List.append_nil]
  refine ⟨B2, W, L, k, g2.bh, d2, ok, hL, fun d kvs gs B3 H3 g3 hdB hd2 hd3 hda hnd hgl hgs => ?_⟩
  refine ⟨d, kvs, rfl, hd3, fun o L' hL' => ?_⟩
  have g13 : Gr B H B3 H3 := (g1.trans g2).trans g3
  have hdH : H d = none := (g1.hh.trans g2.hh).free hd2
  -- from here on the dict is locked
  have e33 : Ex B3 (upd H3 d (.frz o (.dT kvs))) := g3.bh.mut hdB
  have g4 : Gr B H B3 (upd H3 d (.frz o (.dT kvs))) := g13.mut hdH hdB
  have hlen := da_len hda
  rw [List.length_map, List.length_map] at hlen
  refine ⟨fun i m H' => m = kvs.length - i ∧ i ≤ kvs.length ∧ Lw K B3 (upd H3 d (.frz o (.dT kvs))) L' gs (fun g => decide (1 < g.length)) (fun g => .list (g.map thD)) i H', ⟨kvs.length, rfl, Nat.zero_le _, Lw.zero e33 hL'⟩, ?_⟩
  rintro i m H' ⟨rfl, hi, lw⟩
  obtain ⟨Bi, acc, x1, x2, x3, x4, x5⟩ := id lw
  have hdf : H' d = some (.frz o (.dT kvs)) := x4 _ _ upd_same
  by_cases hlt : i < kvs.length
  · have hg : gs[i]? = some (gs[i]'(by omega)) := List.getElem?_eq_getElem (by omega)
    generalize (gs[i]'(by omega)) = gi at hg
    refine .inr ⟨⟨hdf, hlt⟩, Lw K B3 (upd H3 d (.frz o (.dT kvs))) L' gs (fun g => decide (1 < g.length)) (fun g => .list (g.map thD)) (i + 1), fun H2 w2 => ⟨kvs.length - (i + 1), by omega, rfl, hlt, w2⟩, fun y H2 hy => ?_⟩
    obtain ⟨rfl, kk, hkk⟩ := hy
    obtain ⟨dd, hd1, hd2⟩ := da_getV hda (i := i) (v := y) (by rw [List.getElem?_map, hkk]; rfl)
    rw [List.getElem?_map, hg] at hd1
    cases hd1
    refine ⟨rfl, lw.turn hL' hg (by omega) (fun B' e' => et_test (K := K) ((ev_I0b (g := fun i j => decide (j < i)) (ev_lenL (ev_var rfl (dm e' hd2))) ev_int).is ?_)) (fun _ B' e' => ev_var rfl (dm e' hd2))⟩
    rw [List.length_map]
    exact congrArg PyData.bool (decide_eq_decide.mpr (by omega))
  · refine .inl ⟨⟨hdf, by omega⟩, lw.done (by omega) hL' g4 fun v B' H' g' d' => q v (gs.filter fun g => decide (1 < g.length)) B' H' g' d'.d ?_⟩
    rw [List.filter_eq_nil_iff, hnd]
    constructor
    · intro h g hg
      have := h g hg
      rw [decide_eq_true_eq] at this
      omega
    · intro h g hg
      have := h g hg
      rw [decide_eq_true_eq]
      omega
theorem ok_ik {f : Addr} {fd : FuncData} (D : Df K mg "is_known" sIk ["web", "looks", "kind"] f fd) (G : Gd P w K mg base "likes_by" ["web", "looks", "kind"] 5 (spLb K)) : Gd P w K mg base "is_known" ["web", "looks", "kind"] 6 (spD K rIk) := by
  refine gd_ofD (N := nIk) D scIk (fun ds r ⟨W, L, k, _, _, e, _⟩ => by rw [e]; rfl) fun cdv A outer s H B vs ds r Q E hr e hd hR q => ?_
  obtain ⟨W, L, k, ok, hL, rfl, rfl⟩ := hR
  obtain ⟨wv, lv, kv, rfl, hw, hl, hk⟩ := da3 hd
  refine ⟨_, pss_one (ps_ret (pe_cmpR (op_eqD (u64 hr)) (pe_fn G hr (pa_cons (pv 0) (pa_cons (pv 1) (pa_cons (pv 2) pa_nil)))) (pe_lst pa_nil) (nomark _))), ?_⟩
  refine rt_ ?_
  refine op_ (call_ ?_)
  refine (ea3 (K := K) (B := B) (σ := [some wv, some lv, some kv]) (ev_var (i := 0) rfl hw) (ev_var (i := 1) rfl hl) (ev_var (i := 2) rfl hk)) H e _ fun us B2 H2 g2 d2 => ?_
  show spLb K (us ++ []) H2 _ _
  rw [List.append_nil]
  refine ⟨B2, W, L, k, g2.bh, d2, ok, hL, fun v gs B3 H3 g3 hv hg => ?_⟩
  refine (ef_lst (K := K) (B := B3) ea_nil (by simp)).toD H3 g3.bh _ fun v2 B4 H4 g4 d4 => ?_
  refine ⟨gsD gs, .list [], dm g4.bh (dm g4.bb hv), dm g4.bh d4, sh_gs gs, sh_nil, q _ B4 H4 ((g2.trans g3).trans g4) ?_⟩
  rw [eqv_nil]
  have : decide (gs = []) = decide ((W.ths k).map (W.cd L)).Nodup := decide_eq_decide.mpr hg
  rw [this]
  exact .bl _
end
end Fx
set_option Elab.async false
set_option linter.all false
set_option maxRecDepth 100000
set_option autoImplicit false
namespace Fx
open PySem PySem.Spec PyProof.Rows L2
/-! ### the pool at q: two ints, drawn from -/
def PoolAt (H : Hp) (q : Addr) : Prop := ∃ x y : Int, H q = some (.lst [.int x, .int y])
theorem PoolAt.up {H H' : Hp} {q : Addr} (h : PoolAt H q) (e : Ex H H') : PoolAt H' q := by
  obtain ⟨x, y, h⟩ := h
  exact ⟨x, y, e _ _ h⟩
theorem PoolAt.ne {H : Hp} {q : Addr} (h : PoolAt H q) : H q ≠ none := by
  obtain ⟨x, y, h⟩ := h
  rw [h]
  exact fun z => nomatch z
structure GrP (q : Addr) (B H B' H' : Hp) : Prop where
  bb : Ex B B'
  bh : Ex B' H'
  hh : ∀ a o, a ≠ q → H a = some o → H' a = some o
  fp : ∀ a, B' a ≠ none → B a ≠ none ∨ H a = none
section
variable {q : Addr} {B H B' H' B2 H2 : Hp}
theorem Gr.p (g : Gr B H B' H') : GrP q B H B' H' := ⟨g.bb, g.bh, fun a o _ h => g.hh a o h, g.fp⟩
theorem GrP.off (g : GrP q B H B' H') {a : Addr} (hb : B a = none) (hp : H a ≠ none) : B' a = none := by
  cases z : B' a with
  | none => rfl
  | some o =>
    rcases g.fp a (by rw [z]; exact fun z => nomatch z) with y | y
    · exact absurd hb y
    · exact absurd y hp
theorem GrP.free (g : GrP q B H B' H') {a : Addr} (hq : a ≠ q) (h : H' a = none) : H a = none := by
  cases z : H a with
  | none => rfl
  | some o =>
    rw [g.hh a o hq z] at h
    cases h
theorem GrP.trans (hq : H' q ≠ none) (g : GrP q B H B' H') (g2 : GrP q B' H' B2 H2) : GrP q B H B2 H2 := ⟨g.bb.trans g2.bb, g2.bh, fun a o h1 h2 => g2.hh a o h1 (g.hh a o h1 h2), fun a h => by
  rcases g2.fp a h with z | z
  · exact g.fp a z
  · exact .inr (g.free (fun e => hq (by rw [← e]; exact z)) z)⟩
theorem GrP.set (g : GrP q B H B' H') (hb : B' q = none) (o : HO) : GrP q B H B' (upd H' q o) := ⟨g.bb, g.bh.mut hb, fun a u h1 h2 => by
  rw [upd_ne h1]
  exact g.hh a u h1 h2, g.fp⟩
theorem GrP.own {p : Addr} {o : HO} (g : GrP q B H B' H') (h : H p = none) (hb : B' p = none) (hp : H' p = some o) : GrP q B H (upd B' p o) H' := ⟨g.bb.trans (Ex.new hb), g.bh.at hp, g.hh, fun a y => by
  by_cases z : a = p
  · rw [z]; exact .inr h
  · rw [upd_ne z] at y; exact g.fp a y⟩
end
theorem pool_set {H : Hp} {q : Addr} (x y : Int) : PoolAt (upd H q (.lst [.int x, .int y])) q := ⟨x, y, upd_same⟩
section
variable {K : PySem.W.Frag} {σ : Sg} {B H : Hp} {ta tb te : TE} {D : Ends}
theorem ax_I0 {g : Int → Int → V} {i j : Int} (ha : Ax ta σ H (.int i)) (hb : Ax tb σ H (.int j)) : Ax (tOp (rI0 g) ta tb) σ H (g i j) := fun Q q => ha _ (hb _ ⟨i, j, rfl, rfl, q⟩)
theorem ax_I {C : Int → Int → Prop} {g : Int → Int → V} {i j : Int} (ha : Ax ta σ H (.int i)) (hb : Ax tb σ H (.int j)) (hc : C i j) : Ax (tOp (rI C g) ta tb) σ H (g i j) := fun Q q => ha _ (hb _ ⟨i, j, rfl, rfl, hc, q⟩)
theorem ax_lenL {l : Addr} {xs : List V} (ha : Ax ta σ H (.ref l)) (hl : SqL K H l xs) : Ax (tCB (lenR K) (tCons ta tNil)) σ H (.int (xs.length : Nat)) := fun Q q => ha _ ⟨l, xs, rfl, .inl hl, q⟩
theorem ax_eqI {i j : Int} (ha : Ax ta σ H (.int i)) (hb : Ax tb σ H (.int j)) : Ax (tOp rEq ta tb) σ H (.bl (decide (i = j))) := fun Q q => ha _ (hb _ ⟨rfl, by rw [dec_i]; exact q⟩)
theorem ax_min2 {i j : Int} (ha : Ax ta σ H (.int i)) (hb : Ax tb σ H (.int j)) : Ax (tCB min2R (tCons ta (tCons tb tNil))) σ H (.int (min i j)) := fun Q q => ha _ (hb _ ⟨i, j, rfl, by
  have e : (if j < i then j else i) = min i j := by
    by_cases h : j < i
    · rw [if_pos h]; omega
    · rw [if_neg h]; omega
  rw [e]
  exact q⟩)
theorem ax_max2 {i j : Int} (ha : Ax ta σ H (.int i)) (hb : Ax tb σ H (.int j)) : Ax (tCB max2R (tCons ta (tCons tb tNil))) σ H (.int (max i j)) := fun Q q => ha _ (hb _ ⟨i, j, rfl, by
  have e : (if j > i then j else i) = max i j := by
    by_cases h : j > i
    · rw [if_pos h]; omega
    · rw [if_neg h]; omega
  rw [e]
  exact q⟩)
/-- an exact test -/
def AxT (t : TT) (σ : Sg) (H : Hp) (b : Bool) : Prop := ∀ Q : Bool → Hp → Prop, Q b H → t σ H Q
theorem at_test {b : Bool} (h : Ax te σ H (.bl b)) : AxT (tTest te) σ H b := fun Q q => h _ ⟨b, rfl, q⟩
theorem at_B {b : Bool} (h : Ax te σ H (.bl b)) : AxT (tB te) σ H b := fun Q q => h _ ⟨b, rfl, q⟩
theorem at_and {t u : TT} {a b : Bool} (h : AxT t σ H a) (h2 : a = true → AxT u σ H b) : AxT (tAnd t u) σ H (a && b) := fun Q q => h _ (by
  cases a with
  | true => exact h2 rfl Q q
  | false => exact q)
theorem at_or {t u : TT} {a b : Bool} (h : AxT t σ H a) (h2 : a = false → AxT u σ H b) : AxT (tOr t u) σ H (a || b) := fun Q q => h _ (by
  cases a with
  | false => exact h2 rfl Q q
  | true => exact q)
theorem sx_if {t : TT} {tu tw : TS} {b : Bool} (h : AxT t σ H b) (h1 : b = true → tu D σ H) (h2 : b = false → tw D σ H) : tIfS t tu tw D σ H := h _ (by
  cases b with
  | true => exact h1 rfl
  | false => exact h2 rfl)
theorem sx_asg {i : Nat} {v : V} (h : Ax te σ H v) (k : D.nx (σ.set i (some v)) H) : tAsg te (gName i) D σ H := h _ k
theorem sx_ret {v : V} (h : Ax te σ H v) (k : D.rt v H) : tRet te D σ H := h _ k
theorem sx_set {l : Addr} {xs : List V} {j : Nat} {v : V} (h : Ax te σ H v) (ho : Ax ta σ H (.ref l)) (hi : Ax tb σ H (.int (j : Int))) (hl : H l = some (.lst xs)) (hj : j < xs.length) (k : D.nx σ (upd H l (.lst (xs.set j v)))) : tAsg te (gSub ta tb rSetL) D σ H :=
  h _ (ho _ (hi _ ⟨l, xs, (j : Int), j, rfl, rfl, hl, Evl.ixN_nat hj, k⟩))
end
/-! ### _law_take -/
abbrev sTake : Stmt := topS 44
abbrev nTake : List Str := ["pool", "many", "found"]
theorem scTake : FnScope nTake ["pool", "many"] (defScope sTake) := ⟨rfl, rfl, rfl, by decide +kernel, rfl, by decide +kernel, by decide +kernel⟩
def spTake : Sp := fun vs H Q _ => ∃ (q : Addr) (m : Nat), vs = [.ref q, .int (m : Int)] ∧ PoolAt H q ∧ 1 ≤ m ∧ m ≤ 1000 ∧ ∀ (r : Nat) (x y : Int), r < m → Q (.int (r : Int)) (upd H q (.lst [.int x, .int y]))
theorem take_ {σ : Sg} {H : Hp} {ta tb : TE} {q : Addr} {m : Nat} {E : XK} {Q : VK} (ha : Ax ta σ H (.ref q)) (hb : Ax tb σ H (.int (m : Int))) (hq : PoolAt H q) (hm : 1 ≤ m) (hm2 : m ≤ 1000) (k : ∀ (r : Nat) (x y : Int), r < m → Q (.int (r : Int)) (upd H q (.lst [.int x, .int y]))) :
    tCall spTake [] E (tCons ta (tCons tb tNil)) σ H Q := ha _ (hb _ ⟨q, m, rfl, hq, hm, hm2, k⟩)
abbrev sPool : Stmt := topS 43
abbrev nPool : List Str := ["cells", "k", "cell", "rest"]
theorem scPool : FnScope nPool ["cells", "k"] (defScope sPool) := ⟨rfl, rfl, rfl, by decide +kernel, rfl, by decide +kernel, by decide +kernel⟩
def csD (cs : List Int) : PyData := .list (cs.map .int)
def spPool (K : PySem.W.Frag) : Sp := fun vs H Q _ => ∃ (B : Hp) (cs : List Int) (k : Nat), Ex B H ∧ DpAll K B vs [csD cs, .int (k : Int)] ∧ cs.length ≤ 1000 ∧ k ≤ 1000 ∧ ∀ (q : Addr) (x y : Int) (H' : Hp), Ex H H' → H q = none → H' q = some (.lst [.int x, .int y]) → Q (.ref q) H'
abbrev sCells : Stmt := topS 42
abbrev nCells : List Str := ["script", "many", "cells", "k", "cell"]
theorem scCells : FnScope nCells ["script", "many"] (defScope sCells) := ⟨rfl, rfl, rfl, by decide +kernel, rfl, by decide +kernel, by decide +kernel⟩
def spCells (K : PySem.W.Frag) : Sp := fun vs H Q _ => ∃ (B : Hp) (ns : List Int), Ex B H ∧ DpAll K B vs [csD ns, .int 3] ∧ ∀ (v : V) (cs : List Int) (B' H' : Hp), Gr B H B' H' → Dp K B' v (csD cs) → cs.length ≤ 3 → Q v H'
section
variable {P : Program} {w : World} {K : PySem.W.Frag} {mg : Str → Option Value} {base : Heap}
theorem ok_take {f : Addr} {fd : FuncData} (D : Df K mg "_law_take" sTake ["pool", "many"] f fd) : Gd P w K mg base "_law_take" ["pool", "many"] 1 spTake := by
  refine gd_of (N := nTake) D scTake (fun vs H Q E ⟨q, m, e, _⟩ => by rw [e]; rfl) fun cdv A outer s H vs Q E hr ⟨q, m, e, ⟨x, y, hq⟩, h1, h2, k⟩ => ?_
  subst e
  refine ⟨_, pss_cons (ps_if (pt_cmpR op_gt (be_ixL K (pv 0) pe_int) pe_int (nomark _))
      (pss_cons (ps_set (i := 2) scTake.nd rfl (.inl rfl) (pe_op op_mod (be_ixL K (pv 0) pe_int) (pv 1)))
      (pss_cons (ps_asg (pe_op op_fdiv (be_ixL K (pv 0) pe_int) (pv 1)) (pg_sub (pv 0) pe_int set_list))
      (pss_one (ps_ret (pv 2))))) pss_nil)
    (pss_cons (ps_asg (pe_op op_mod (pe_op op_add (pe_op op_mul (be_ixL K (pv 0) pe_int) pe_int) pe_int) pe_int) (pg_sub (pv 0) pe_int set_list))
    (pss_one (ps_ret (pe_op op_mod (pe_op op_fdiv (pe_op op_mod (pe_op op_mul (pe_op op_mod (pe_op op_mul (be_ixL K (pv 0) pe_int) (be_ixL K (pv 0) pe_int)) pe_int) pe_int) pe_int) pe_int) (pv 1))))), ?_⟩
  have i0 : ∀ (x y : Int), [V.int x, V.int y][0]? = some (.int x) := fun _ _ => rfl
  have i1 : ∀ (x y : Int), [V.int x, V.int y][1]? = some (.int y) := fun _ _ => rfl
  have hm0 : (0 : Int) < (m : Int) := by omega
  refine sq (sx_if (b := decide (0 < x)) (at_test (ax_I0 (g := fun i j => .bl (decide (j < i))) (ax_ixL (i := 0) (ax_var rfl) ax_int hq (i0 x y)) ax_int)) (fun _ => ?_) (fun _ => ?_))
  · refine sq (sx_asg (ax_I (g := fun i j => .int (i % j)) (ax_ixL (i := 0) (ax_var rfl) ax_int hq (i0 x y)) (ax_var rfl) hm0) ?_)
    try dsimp only
    refine sq (sx_set (j := 0) (ax_I (g := fun i j => .int (i / j)) (ax_ixL (i := 0) (ax_var rfl) ax_int hq (i0 x y)) (ax_var rfl) ⟨hm0, by omega⟩) (ax_var rfl) ax_int hq (by simp) ?_)
    try dsimp only
    refine sx_ret (ax_var rfl) ?_
    have e1 : ∃ r : Nat, x % (m : Int) = (r : Int) ∧ r < m := by
      have b1 := Int.emod_nonneg x (show (m : Int) ≠ 0 by omega)
      have b2 := Int.emod_lt_of_pos x hm0
      exact ⟨(x % (m : Int)).toNat, by omega, by omega⟩
    obtain ⟨r, er, hr'⟩ := e1
    rw [er]
    exact k r (x / (m : Int)) y hr'
  · try dsimp only
    refine (?_ : tSeq _ _ _ _ _)
    refine sq (sx_set (j := 1) (ax_I (g := fun i j => .int (i % j)) (ax_I0 (g := fun i j => .int (i + j)) (ax_I (g := fun i j => .int (i * j)) (ax_ixL (i := 1) (ax_var rfl) ax_int hq (i1 x y)) ax_int (.inr ⟨by decide, by decide⟩)) ax_int) ax_int (by decide)) (ax_var rfl) ax_int hq (by simp) ?_)
    generalize hz : (y * 48271 + 12820163) % 2147483647 = z
    have z1 : 0 ≤ z := by rw [← hz]; exact Int.emod_nonneg _ (by decide)
    have z2 : z < 2147483647 := by rw [← hz]; exact Int.emod_lt_of_pos _ (by decide)
    try dsimp only
    refine sx_ret (ax_I (g := fun i j => .int (i % j)) (ax_I (g := fun i j => .int (i / j)) (ax_I (g := fun i j => .int (i % j)) (ax_I (g := fun i j => .int (i * j)) (ax_I (g := fun i j => .int (i % j)) (ax_I (g := fun i j => .int (i * j)) (ax_ixL (i := 1) (ax_var rfl) ax_int upd_same (i1 x z)) (ax_ixL (i := 1) (ax_var rfl) ax_int upd_same (i1 x z)) (.inl ⟨by omega, by omega⟩)) ax_int (by decide)) ax_int (.inr ⟨by decide, by decide⟩)) ax_int (by decide)) ax_int ⟨by decide, by decide⟩) (ax_var rfl) hm0) ?_
    generalize z * z % 2147483629 * 69621 % 2147483587 / 8 = t
    have b1 := Int.emod_nonneg t (show (m : Int) ≠ 0 by omega)
    have b2 := Int.emod_lt_of_pos t hm0
    have er : t % (m : Int) = ((t % (m : Int)).toNat : Int) := by omega
    rw [er]
    exact k _ x z (by omega)
theorem ok_pool {f : Addr} {fd : FuncData} (D : Df K mg "_law_pool" sPool ["cells", "k"] f fd) (T : Bt mg) : Gd P w K mg base "_law_pool" ["cells", "k"] 1 (spPool K) := by
  refine gd_of (N := nPool) D scPool (fun vs H Q E ⟨B, cs, k, _, hd, _⟩ => da_len hd) fun cdv A outer s H vs Q E hr ⟨B, cs, k, e, hd, hcl, hk, q⟩ => ?_
  obtain ⟨cv, kv, rfl, hcv, hkv⟩ := da2 hd
  have hkk := Dpi hkv
  subst hkk
  refine ⟨_, pss_cons (ps_set (i := 2) scPool.nd rfl (.inl rfl) pe_int)
    (pss_cons (ps_if (pt_cmpR op_gt (be_len K T.len (pv 0)) pe_int (nomark _)) (pss_one (ps_set (i := 2) scPool.nd rfl (.inl rfl) (pe_op op_add (be_ixL K (pv 0) (pe_op op_mod (pv 1) (be_len K T.len (pv 0)))) (pe_op op_fdiv (pv 1) (be_len K T.len (pv 0)))))) pss_nil)
    (pss_cons (ps_set (i := 3) scPool.nd rfl (.inl rfl) pe_int)
    (pss_cons (ps_if (PW.pt (pw_or (pt_cmpR op_lt (pv 2) pe_int (nomark _)) (pw_or1 (pt_cmpR op_ge (pv 2) (pe_op op_pow pe_int pe_int) (nomark _))))) (pss_one (ps_set (i := 3) scPool.nd rfl (.inl rfl) (pe_callB call_abs (by rfl) T.abs (by decide +kernel) (pa_cons (pv 2) pa_nil)))) pss_nil)
    (pss_one (ps_ret (pe_lst (pa_cons (pv 3) (pa_cons (pe_op op_mod (pe_op op_add (pe_op op_mul (pe_op op_mod (pv 2) pe_int) pe_int) (pe_op op_mul (pe_op op_mul pe_int (pe_op op_add (pv 1) pe_int)) (pe_op op_add (pv 1) pe_int))) pe_int) pa_nil)))))))), ?_⟩
  obtain ⟨ca, cxs, rfl, hcs, hcd⟩ := Dpl hcv
  have hcx := da_intsV hcd
  subst hcx
  have hsl : SqL K H ca (cs.map V.int) := e.sl hcs
  have fin : ∀ (cell rest : Int), tRet (tLst (tCons (tVar 3) (tCons (tOp (rI (fun _ j => 0 < j) fun i j => .int (i % j)) (tOp (rI0 fun i j => .int (i + j)) (tOp (rI CMul fun i j => .int (i * j)) (tOp (rI (fun _ j => 0 < j) fun i j => .int (i % j)) (tVar 2) (tC (.int 2147483629))) (tC (.int 69621))) (tOp (rI CMul fun i j => .int (i * j)) (tOp (rI CMul fun i j => .int (i * j)) (tC (.int 40009)) (tOp (rI0 fun i j => .int (i + j)) (tVar 1) (tC (.int 1)))) (tOp (rI0 fun i j => .int (i + j)) (tVar 1) (tC (.int 3))))) (tC (.int 2147483629))) tNil)))
      { nx := fun _ H' => Q .non H', rt := Q } [some (.ref ca), some (.int (k : Int)), some (.int cell), some (.int rest)] H := fun cell rest => by
    refine rt_ ?_
    refine ⟨_, rfl, ?_⟩
    refine (ax_I (g := fun i j => .int (i % j)) (ax_I0 (g := fun i j => .int (i + j)) (ax_I (g := fun i j => .int (i * j)) (ax_I (g := fun i j => .int (i % j)) (ax_var (i := 2) rfl) ax_int (by decide)) ax_int (.inr ⟨by decide, by decide⟩)) (ax_I (g := fun i j => .int (i * j)) (ax_I (g := fun i j => .int (i * j)) ax_int (ax_I0 (g := fun i j => .int (i + j)) (ax_var (i := 1) rfl) ax_int) (.inl ⟨by decide, by decide⟩)) (ax_I0 (g := fun i j => .int (i + j)) (ax_var (i := 1) rfl) ax_int) (.inr ⟨by omega, by omega⟩))) ax_int (by decide) : Ax _ _ H _) _ ?_
    refine ⟨by show 2 ≤ sizeLine; decide, fun p hp => ?_⟩
    exact q p _ _ _ (Ex.new hp) hp upd_same
  have part2 : ∀ cell : Int, tSeq (tAsg (tC (.int 0)) (gName 3)) (tSeq (tIfS (tOr (tTest (tOp (rI0 fun i j => .bl (decide (i < j))) (tVar 2) (tC (.int 0)))) (tTest (tOp (rI0 fun i j => .bl (decide (j ≤ i))) (tVar 2) (tOp (rI CPow fun i j => .int (i ^ j.toNat)) (tC (.int 10)) (tC (.int 18)))))) (tAsg (tCB (fun xs H Q => ∃ i, xs = [.int i] ∧ Q (.int (if i < 0 then -i else i)) H) (tCons (tVar 2) tNil)) (gName 3)) tNext)
      (tRet (tLst (tCons (tVar 3) (tCons (tOp (rI (fun _ j => 0 < j) fun i j => .int (i % j)) (tOp (rI0 fun i j => .int (i + j)) (tOp (rI CMul fun i j => .int (i * j)) (tOp (rI (fun _ j => 0 < j) fun i j => .int (i % j)) (tVar 2) (tC (.int 2147483629))) (tC (.int 69621))) (tOp (rI CMul fun i j => .int (i * j)) (tOp (rI CMul fun i j => .int (i * j)) (tC (.int 40009)) (tOp (rI0 fun i j => .int (i + j)) (tVar 1) (tC (.int 1)))) (tOp (rI0 fun i j => .int (i + j)) (tVar 1) (tC (.int 3))))) (tC (.int 2147483629))) tNil)))))
      { nx := fun _ H' => Q .non H', rt := Q } [some (.ref ca), some (.int (k : Int)), some (.int cell), none] H := fun cell => by
    refine sq (sx_asg ax_int ?_)
    try dsimp only
    refine sq (sx_if (b := decide (cell < 0) || decide (10 ^ (18 : Int).toNat ≤ cell)) (at_or (at_test (ax_I0 (g := fun i j => .bl (decide (i < j))) (ax_var rfl) ax_int)) fun _ => at_test (ax_I0 (g := fun i j => .bl (decide (j ≤ i))) (ax_var rfl) (ax_I (g := fun i j => .int (i ^ j.toNat)) ax_int ax_int ⟨by decide, by decide, by decide⟩))) (fun _ => ?_) (fun _ => ?_))
    · refine as_ ?_
      refine ⟨_, rfl, cell, rfl, ?_⟩
      exact fin cell _
    · exact fin cell 0
  refine sq (sx_asg ax_int ?_)
  try dsimp only
  refine sq (sx_if (b := decide ((0 : Int) < ((cs.map V.int).length : Nat))) (at_test (ax_I0 (g := fun i j => .bl (decide (j < i))) (ax_lenL (K := K) (ax_var rfl) hsl) ax_int)) (fun hb => ?_) (fun hb => ?_))
  · have hb := of_decide_eq_true hb
    have hl : (cs.map V.int).length = cs.length := List.length_map ..
    rw [hl] at hb
    have hmod : ∃ r : Nat, (k : Int) % (((cs.map V.int).length : Nat) : Int) = (r : Int) ∧ r < cs.length := by
      rw [hl]
      have b1 := Int.emod_nonneg (k : Int) (show (cs.length : Int) ≠ 0 by omega)
      have b2 := Int.emod_lt_of_pos (k : Int) (show (0 : Int) < (cs.length : Int) by omega)
      exact ⟨((k : Int) % (cs.length : Int)).toNat, by omega, by omega⟩
    obtain ⟨r, er, hr'⟩ := hmod
    have hat : (cs.map V.int)[r]? = some (.int cs[r]) := by
      rw [List.getElem?_map, List.getElem?_eq_getElem hr']
      rfl
    refine as_ ?_
    have axk : Ax (tVar 1) [some (.ref ca), some (.int (k : Int)), some (.int 0), none] H (.int (k : Int)) := ax_var rfl
    have axl : Ax (tCB (lenR K) (tCons (tVar 0) tNil)) [some (.ref ca), some (.int (k : Int)), some (.int 0), none] H (.int ((cs.map V.int).length : Nat)) := ax_lenL (ax_var rfl) hsl
    refine ⟨_, rfl, axk _ (axl _ ⟨_, _, rfl, rfl, (show (0 : Int) < (((cs.map V.int).length : Nat) : Int) by rw [hl]; exact hb), ?_⟩)⟩
    refine ⟨ca, _, (k : Int) % (((cs.map V.int).length : Nat) : Int), .int cs[r], rfl, rfl, hsl, by rw [er]; exact atI_nat hat, ?_⟩
    refine axk _ (axl _ ⟨_, _, rfl, rfl, ⟨by rw [hl]; exact hb, by rw [hl]; omega⟩, ?_⟩)
    refine ⟨_, _, rfl, rfl, ?_⟩
    exact part2 _
  · exact part2 0
end
end Fx
set_option Elab.async false
set_option linter.all false
set_option maxRecDepth 100000
set_option autoImplicit false
namespace Fx
open PySem PySem.Spec PyProof.Rows L2
theorem be_popAt (K : PySem.W.Frag) {X : Cx} {o e : Expr} {to te : TE} {apos cpos : Pos} (ho : PE X o to) (ha : PE X e te) (hK : X.K = K := by rfl) (hs : starEach [e] X.env = (false, eval e X.env) :: starEach [] X.env := by rfl)
    (b : attributeBase o "pop" X.env (eval o X.env) = eval o X.env := by rfl) (f : ((backTo cpos (starEach [e] X.env)).all (fun x => !x.1) && (backToKw cpos (keywordEach [] X.env)).all (fun x => x.1.isSome) && decide ([e].length + ([] : List Keyword).length + (if ([] : List Keyword).isEmpty then 0 else 1) < 30)) = true := by rfl)
    (l : (apos.endLine == cpos.line) = true := by rfl) (p : (backTo cpos (starEach [] X.env)).any (·.1) = false := by rfl) : PE X (.Call (.Attribute o "pop" apos) [e] [] cpos) (tBM K "list" rPopAt to (tCons te tNil)) := by
  subst hK; exact pe_bm PySem.F.plainAttrs_list PySem.F.slot_list_pop PySem.F.type_list_pop mt_popAt ho (pa_cons ha pa_nil hs) b f l hs p
section
variable {K : PySem.W.Frag} {σ : Sg} {B H : Hp} {ta tb te : TE} {D : Ends} {ds : List PyData}
theorem own_list {i : Nat} (x : Ex B H) (h : EvD K ta σ B (.list ds)) (k : ∀ p xs B' H', Gr B H B' H' → DpAll K B' xs ds → H' p = none → D.nx (σ.set i (some (.ref p))) (upd H' p (.lst xs))) : tAsg (tCB (listR K) (tCons ta tNil)) (gName i) D σ H :=
  h H x _ fun v B' H' g hd => by
    obtain ⟨a, xs, rfl, hs, hda⟩ := Dpl hd
    exact ⟨a, xs, rfl, .inl (g.bh.sl hs), fun p hp => k p xs B' H' g hda hp⟩
end
section
variable {P : Program} {w : World} {K : PySem.W.Frag} {mg : Str → Option Value} {base : Heap}
theorem ok_cells {f : Addr} {fd : FuncData} (D : Df K mg "_law_cells" sCells ["script", "many"] f fd) (T : Bt mg) : Gd P w K mg base "_law_cells" ["script", "many"] 1 (spCells K) := by
  refine gd_of (N := nCells) D scCells (fun vs H Q E ⟨B, ns, _, hd, _⟩ => da_len hd) fun cdv A outer s H vs Q E hr ⟨B, ns, e, hd, q⟩ => ?_
  obtain ⟨sv, mv, rfl, hsv, hmv⟩ := da2 hd
  have hmi := Dpi hmv
  subst hmi
  refine ⟨_, pss_cons (ps_set (i := 2) scCells.nd rfl (.inl rfl) (be_list K T.list (pe_slice sl_list (pv 0) po_none (po_some (pv 1)))))
    (pss_cons (ps_for PassesOwn.never rfl (pi_enum (by rfl) T.enum (pa_cons (pe_slice sl_list (pv 0) (po_some (pv 1)) (po_some pe_int)) pa_nil)) (pg_tup rfl (pgs_cons (pg_name (i := 3) scCells.nd rfl (.inl rfl)) (pgs_cons (pg_name (i := 4) scCells.nd rfl (.inl rfl)) pgs_nil)))
      (pss_one (ps_asg (pe_op op_add (pe_op op_mul (be_ixL K (pv 2) (pe_op op_mod (pv 3) (pv 1))) pe_int) (pv 4)) (pg_sub (pv 2) (pe_op op_mod (pv 3) (pv 1)) set_list))))
    (pss_one (ps_ret (pv 2)))), ?_⟩
  have cut3 : cutD (ns.map PyData.int) none (some 3) = (ns.take 3).map PyData.int := by
    rw [show (some (3 : Int)) = some ((3 : Nat) : Int) from rfl, cutD_to, List.map_take]
  refine sq (own_list (K := K) (i := 2) (ds := (ns.take 3).map .int) e ((ef_sl (K := K) (lo := none) (hi := some 3) (ev_var rfl hsv) eo_none (eo_some (K := K) (ev_var rfl (.int 3)))).toD.is (by rw [cut3])) fun p xs B1 H1 g1 hx hp => ?_)
  have hx' := da_intsV hx
  subst hx'
  have hpH : H p = none := g1.hh.free hp
  have hpB : B p = none := e.free hpH
  try dsimp only
  refine sq (forE_ (K := K) (B := B) (ea1 (ef_sl (K := K) (lo := some 3) (hi := some 63) (ev_var rfl hsv) (eo_some (K := K) (ev_var rfl (.int 3))) (eo_some (K := K) ev_int)).toD) ((e.trans g1.hh).mut hpB) fun a ys B2 H2 g2 hs hda => ?_)
  have hylen := da_len hda
  have hyl3 : ys.length ≤ ns.length - 3 := by
    rw [hylen]
    unfold cutD
    have h1 : HT.sIx (ns.map PyData.int).length 0 (some 3) = min 3 ns.length := by
      rw [show (some (3 : Int)) = some ((3 : Nat) : Int) from rfl, HT.sIx_nat, List.length_map]
    rw [h1]
    refine Nat.le_trans (List.length_take_le' _ _) ?_
    rw [List.length_drop, List.length_map]
    omega
  have hpB2 : B2 p = none := g2.off hpB (by rw [upd_same]; exact fun z => nomatch z)
  have xH2 : Ex H H2 := (g1.hh.mut hpH).trans g2.hh
  refine for_enum (xs := ys) (fun i σ H' => ∃ x3 x4 cs, σ = [some sv, some (.int 3), some (.ref p), x3, x4] ∧ Ex H H' ∧ Ex B2 H' ∧ H' p = some (.lst (cs.map V.int)) ∧ cs.length = (ns.take 3).length) ⟨none, none, ns.take 3, rfl, xH2, g2.bh, g2.hh _ _ upd_same, rfl⟩ ?_ ?_ ?_
  · rintro i σ H' _ ⟨x3, x4, cs, rfl, x, xb, hc, hl⟩
    exact xb.sl hs
  · rintro i y U σ H' hy ⟨x3, x4, cs, rfl, x, xb, hc, hl⟩ hU
    obtain ⟨dy, hdy1, hdy2⟩ := da_getV hda hy
    have hil := (List.getElem?_eq_some_iff.mp hy).1
    have hint : ∃ c : Int, dy = .int c := by
      have hm := List.mem_of_getElem? hdy1
      unfold cutD at hm
      have hm := List.mem_of_mem_drop (List.mem_of_mem_take hm)
      obtain ⟨c, _, e⟩ := List.mem_map.mp hm
      exact ⟨c, e.symm⟩
    obtain ⟨c, rfl⟩ := hint
    rw [Dpi hdy2]
    rw [Dpi hdy2] at hy
    have l3 : cs.length = 3 := by
      rw [hl, List.length_take]
      omega
    have hmod : ((i : Int) % 3) = ((i % 3 : Nat) : Int) := by omega
    have hm3 : i % 3 < cs.length := by omega
    have hcU : (upd H' U (.tup [.int (i : Nat), .int c])) p = some (.lst (cs.map V.int)) := (Ex.new hU) _ _ hc
    refine ⟨U, _, rfl, .inl (.inl upd_same), rfl, _, _, rfl, _, _, rfl, rfl, ?_⟩
    have axm : Ax (tOp (rI (fun _ j => 0 < j) fun i j => .int (i % j)) (tVar 3) (tVar 1)) [some sv, some (.int 3), some (.ref p), some (.int (i : Int)), some (.int c)] (upd H' U (.tup [.int (i : Nat), .int c])) (.int ((i % 3 : Nat) : Int)) := by
      rw [← hmod]
      exact ax_I (g := fun i j => .int (i % j)) (ax_var rfl) (ax_var rfl) (by decide)
    refine sx_set (l := p) (xs := cs.map V.int) (j := i % 3) (v := .int (cs[i % 3] * 31 + c)) (ax_I0 (g := fun i j => .int (i + j)) (ax_I (g := fun i j => .int (i * j)) (ax_ixL (i := i % 3) (ax_var rfl) axm hcU (by rw [List.getElem?_map, List.getElem?_eq_getElem hm3]; rfl)) ax_int (.inr ⟨by decide, by decide⟩)) (ax_var rfl)) (ax_var rfl) axm hcU (by rw [List.length_map]; exact hm3) ?_
    refine ⟨_, _, cs.set (i % 3) (cs[i % 3] * 31 + c), rfl, (x.trans (Ex.new hU)).mut hpH, (xb.trans (Ex.new hU)).mut hpB2, ?_, by rw [List.length_set]; exact hl⟩
    rw [upd_same, List.map_set]
  · rintro σ H' ⟨x3, x4, cs, rfl, x, xb, hc, hl⟩
    try dsimp only
    refine rt_ (te := tVar 2) ⟨_, rfl, ?_⟩
    refine q _ cs _ H' ((Gr.ext e x).own hpH hpB hc) (.lst (.inl (.inl upd_same)) (da_ints cs)) ?_
    rw [hl, List.length_take]
    omega
end
theorem erase_perm {α : Type} : ∀ (l : List α) (r : Nat) (h : r < l.length), (l[r] :: l.eraseIdx r).Perm l
  | a :: l, 0, h => List.Perm.refl _
  | a :: l, r + 1, h => by
    have ih := erase_perm l r (by simpa using h)
    show (l[r]'(Nat.lt_of_succ_lt_succ h) :: a :: l.eraseIdx r).Perm (a :: l)
    exact (List.Perm.swap _ _ _).trans (ih.cons a)
theorem erase_map {α β : Type} (f : α → β) : ∀ (l : List α) (r : Nat), (l.map f).eraseIdx r = (l.eraseIdx r).map f
  | [], r => rfl
  | a :: l, 0 => rfl
  | a :: l, r + 1 => by
    show f a :: (l.map f).eraseIdx r = f a :: (l.eraseIdx r).map f
    rw [erase_map f l r]
/-! ### _law_some -/
abbrev sSome : Stmt := topS 45
abbrev nSome : List Str := ["pool", "menu", "many", "rest", "k"]
theorem scSome : FnScope nSome ["pool", "menu", "many"] (defScope sSome) := ⟨rfl, rfl, rfl, by decide +kernel, rfl, by decide +kernel, by decide +kernel⟩
def spSome (K : PySem.W.Frag) : Sp := fun vs H Q _ => ∃ (B : Hp) (q : Addr) (l : List Nat) (mv : V), vs = [.ref q, mv, .int (l.length : Int)] ∧ Ex B H ∧ B q = none ∧ PoolAt H q ∧ Dp K B mv (nD l) ∧ l.length ≤ 1000 ∧
  ∀ (v : V) (ms : List Nat) (B' H' : Hp), ms.Perm l → GrP q B H B' H' → PoolAt H' q → Dp K B' v (nD ms) → Q v H'
abbrev sLooks : Stmt := topS 48
abbrev nLooks : List Str := ["pool", "many", "part", "place"]
theorem scLooks : FnScope nLooks ["pool", "many"] (defScope sLooks) := ⟨rfl, rfl, rfl, by decide +kernel, rfl, by decide +kernel, by decide +kernel⟩
def spLooks (K : PySem.W.Frag) : Sp := fun vs H Q _ => ∃ (B : Hp) (q : Addr) (n : Nat), vs = [.ref q, .int (n : Int)] ∧ Ex B H ∧ B q = none ∧ PoolAt H q ∧ n ≤ 1000 ∧
  ∀ (v : V) (P : Nat → Bool) (B' H' : Hp), GrP q B H B' H' → PoolAt H' q → Dp K B' v (nD ((List.range n).filter P)) → Q v H'
section
variable {P : Program} {w : World} {K : PySem.W.Frag} {mg : Str → Option Value} {base : Heap}
theorem ok_some {f : Addr} {fd : FuncData} (D : Df K mg "_law_some" sSome ["pool", "menu", "many"] f fd) (T : Bt mg) (G : Gd P w K mg base "_law_take" ["pool", "many"] 1 spTake) : Gd P w K mg base "_law_some" ["pool", "menu", "many"] 2 (spSome K) := by
  refine gd_of (N := nSome) D scSome (fun vs H Q E ⟨B, q, l, mv, e, _⟩ => by rw [e]; rfl) fun cdv A outer s H vs Q E hr ⟨B, q, l, mv, ev, e, hqB, hq, hmv, hl, k⟩ => ?_
  subst ev
  refine ⟨_, pss_cons (ps_set (i := 3) scSome.nd rfl (.inr rfl) (be_list K T.list (pv 1)))
    (pss_one (ps_ret (pe_lc (own := [("k", 4)]) (g := gName 4) (tt := tYes) rfl scSome.nd (pi_range1 rfl T.rng (pa_cons (pv 2) pa_nil)) (blkOk_by (N := nSome) (sc := defScope sSome) (by decide +kernel)) (fun _ _ _ _ _ => pg_name (i := 4) scSome.nd rfl (Or.inl rfl)) (fun _ _ _ _ _ => pts_nil)
      (fun _ _ _ _ _ => be_popAt K (pv 3) (pe_fn G hr (pa_cons (pv 0) (pa_cons (be_len K T.len (pv 3)) pa_nil))))))), ?_⟩
  refine sq (own_list (K := K) (i := 3) e (ev_var rfl hmv) fun p xs B1 H1 g1 hx hp => ?_)
  have hx' := da_natsV hx
  subst hx'
  have hpH : H p = none := g1.hh.free hp
  have hpB : B p = none := e.free hpH
  have hpq : p ≠ q := fun z => hq.ne (by rw [← z]; exact hpH)
  try dsimp only
  refine rt_ ?_
  refine lcR_ (K := K) (n := l.length) (B := B) (ea1 (ev_var rfl (.int _))) ((e.trans g1.hh).mut hpB) (by omega) fun B2 H2 L g2 hL => ?_
  have xH2 : Ex H H2 := (g1.hh.mut hpH).trans g2.hh
  have hLH : H L = none := xH2.free hL
  have hLB : B L = none := e.free hLH
  have hq2 : PoolAt H2 q := hq.up xH2
  have hp2 : H2 p = some (.lst (l.map fun (u : Nat) => V.int (u : Int))) := g2.hh _ _ upd_same
  have hLp : L ≠ p := fun z => by
    rw [z, hp2] at hL
    cases hL
  have hLq : L ≠ q := fun z => hq2.ne (by rw [← z]; exact hL)
  refine lc_range (lo := 0) (n := l.length) (fun i H' => ∃ ms rs : List Nat, ms.length = i ∧ (ms ++ rs).Perm l ∧ (∀ a o, a ≠ q → H a = some o → H' a = some o) ∧ Ex B H' ∧ PoolAt H' q ∧ H' L = some (.lst (ms.map fun (u : Nat) => V.int (u : Int))) ∧ H' p = some (.lst (rs.map fun (u : Nat) => V.int (u : Int)))) ?_ ?_ ?_
  · refine ⟨[], l, rfl, List.Perm.refl _, fun a o _ h => (xH2.trans (Ex.new hL)) _ _ h, (e.trans xH2).trans (Ex.new hL), hq2.up (Ex.new hL), upd_same, ?_⟩
    exact (Ex.new hL) _ _ hp2
  · rintro i H' hi ⟨ms, rs, hms, hperm, x, xb, hq', hL', hp'⟩
    have hlen := hperm.length_eq
    rw [List.length_append] at hlen
    have hrl : (rs.map fun (u : Nat) => V.int (u : Int)).length = rs.length := List.length_map ..
    refine ⟨rfl, ?_⟩
    -- rest.pop(_law_take(pool, len(rest)))
    refine ⟨.ref p, rfl, .inl ⟨rfl, _, .inl (.inl hp')⟩, ?_⟩
    refine take_ (q := q) (m := rs.length) (ax_var rfl) (hrl ▸ ax_lenL (K := K) (ax_var rfl) (SqL.of hp')) hq' (by omega) (by omega) fun r x' y' hr' => ?_
    have hp'' : (upd H' q (.lst [.int x', .int y'])) p = some (.lst (rs.map fun (u : Nat) => V.int (u : Int))) := by rw [upd_ne hpq]; exact hp'
    have hat : (rs.map fun (u : Nat) => V.int (u : Int))[r]? = some (.int (rs[r] : Int)) := by
      rw [List.getElem?_map, List.getElem?_eq_getElem hr']
      rfl
    refine ⟨p, _, (r : Int), r, .int (rs[r] : Int), rfl, rfl, hp'', by omega, by omega, ?_, hat, ?_⟩
    · have := seqIndex_of (k := (r : Int)) (n := (rs.map fun (u : Nat) => V.int (u : Int)).length) (by omega) (by rw [hrl]; omega)
      simpa using this
    · refine ⟨ms.map fun (u : Nat) => V.int (u : Int), ?_, ?_, ms ++ [rs[r]], rs.eraseIdx r, ?_, ?_, ?_, ?_, ?_, ?_, ?_⟩
      · rw [upd_ne hLp, upd_ne hLq]; exact hL'
      · rw [List.length_map]; exact smallt (by omega)
      · rw [List.length_append]; simp [hms]
      · refine List.Perm.trans ?_ hperm
        have : (rs[r] :: rs.eraseIdx r).Perm rs := by
          exact erase_perm rs r hr'
        rw [List.append_assoc]
        exact List.Perm.append_left ms this
      · intro a o h1 h2
        have hal : a ≠ L := fun z => by rw [z, hLH] at h2; cases h2
        have hap : a ≠ p := fun z => by rw [z, hpH] at h2; cases h2
        rw [upd_ne hal, upd_ne hap, upd_ne h1]
        exact x a o h1 h2
      · exact ((xb.mut hqB).mut hpB).mut hLB
      · refine ⟨x', y', ?_⟩
        rw [upd_ne (Ne.symm hLq), upd_ne (Ne.symm hpq), upd_same]
      · rw [upd_same, List.map_append]
        rfl
      · rw [upd_ne (Ne.symm hLp), upd_same, erase_map]
  · rintro H' ⟨ms, rs, hms, hperm, x, xb, hq', hL', hp'⟩
    have hlen := hperm.length_eq
    rw [List.length_append] at hlen
    have hrs : rs = [] := List.eq_nil_of_length_eq_zero (by omega)
    subst hrs
    rw [List.append_nil] at hperm
    have g : GrP q B H B H' := ⟨Ex.refl B, xb, x, fun a h => .inl h⟩
    exact k _ ms _ H' hperm (g.own hLH hLB hL') hq' (.lst (.inl (.inl upd_same)) (da_nats ms))
theorem ok_looks {f : Addr} {fd : FuncData} (D : Df K mg "_law_looks" sLooks ["pool", "many"] f fd) (T : Bt mg) (G : Gd P w K mg base "_law_take" ["pool", "many"] 1 spTake) : Gd P w K mg base "_law_looks" ["pool", "many"] 2 (spLooks K) := by
  refine gd_of (N := nLooks) D scLooks (fun vs H Q E ⟨B, q, n, e, _⟩ => by rw [e]; rfl) fun cdv A outer s H vs Q E hr ⟨B, q, n, ev, e, hqB, hq, hn, k⟩ => ?_
  subst ev
  refine ⟨_, pss_cons (ps_set (i := 2) scLooks.nd rfl (.inr rfl) (pe_fn G hr (pa_cons (pv 0) (pa_cons pe_int pa_nil))))
    (pss_one (ps_ret (pe_lc (own := [("place", 3)]) (g := gName 3) rfl scLooks.nd (pi_range1 rfl T.rng (pa_cons (pv 1) pa_nil)) (blkOk_by (N := nLooks) (sc := defScope sLooks) (by decide +kernel)) (fun _ _ _ _ _ => pg_name (i := 3) scLooks.nd rfl (Or.inl rfl))
      (fun _ _ _ _ _ => pts_one (pt_cmpR op_lt (pe_fn G hr (pa_cons (pv 0) (pa_cons pe_int pa_nil))) (be_ixL K (pe_lst (pa_cons pe_int (pa_cons pe_int (pa_cons pe_int (pa_cons pe_int (pa_cons pe_int (pa_cons pe_int pa_nil))))))) (pv 2)) (nomark _)))
      (fun _ _ _ _ _ => pv 3)))), ?_⟩
  refine sq (as_ ?_)
  refine take_ (q := q) (m := 6) (ax_var rfl) ax_int hq (by omega) (by omega) fun part x1 y1 hpart => ?_
  try dsimp only
  refine rt_ ?_
  have xB1 : Ex B (upd H q (.lst [.int x1, .int y1])) := e.mut hqB
  refine lcR_ (K := K) (n := n) (B := B) (ea1 (ev_var rfl (.int _))) xB1 (by omega) fun B2 H2 L g2 hL => ?_
  have hq2 : PoolAt H2 q := (pool_set x1 y1).up g2.hh
  have hLq : L ≠ q := fun z => hq2.ne (by rw [← z]; exact hL)
  have hLH : H L = none := by
    have := g2.hh.free hL
    rw [upd_ne hLq] at this
    exact this
  have hLB : B L = none := e.free hLH
  refine lc_range (lo := 0) (n := n) (fun i H' => ∃ P : Nat → Bool, (∀ a o, a ≠ q → H a = some o → H' a = some o) ∧ Ex B H' ∧ PoolAt H' q ∧ H' L = some (.lst (((List.range i).filter P).map fun (u : Nat) => V.int (u : Int)))) ?_ ?_ ?_
  · refine ⟨fun _ => true, fun a o h1 h2 => (Ex.new hL) _ _ (g2.hh _ _ (by rw [upd_ne h1]; exact h2)), (xB1.trans g2.hh).trans (Ex.new hL), hq2.up (Ex.new hL), ?_⟩
    rw [upd_same]
    rfl
  · rintro i H' hi ⟨P, x, xb, hq', hL'⟩
    refine ⟨rfl, ?_⟩
    refine take_ (q := q) (m := 6) (ax_var rfl) ax_int hq' (by omega) (by omega) fun r x' y' hr' => ?_
    refine ⟨by show 6 ≤ sizeLine; decide, fun p hp => ?_⟩
    have hat : ∃ z : Int, [V.int 0, V.int 1, V.int 2, V.int 3, V.int 5, V.int 6][part]? = some (.int z) := by
      match part, hpart with
      | 0, _ => exact ⟨_, rfl⟩
      | 1, _ => exact ⟨_, rfl⟩
      | 2, _ => exact ⟨_, rfl⟩
      | 3, _ => exact ⟨_, rfl⟩
      | 4, _ => exact ⟨_, rfl⟩
      | 5, _ => exact ⟨_, rfl⟩
    obtain ⟨z, hz⟩ := hat
    refine ⟨_, rfl, p, _, (part : Int), .int z, rfl, rfl, SqL.of upd_same, atI_nat hz, _, _, rfl, rfl, _, rfl, ?_⟩
    have hpq : p ≠ q := fun z => by rw [z, upd_same] at hp; cases hp
    have hpL : p ≠ L := fun z => by rw [z, upd_ne hLq, hL'] at hp; cases hp
    have xx : ∀ a o, a ≠ q → H a = some o → (upd (upd H' q (.lst [.int x', .int y'])) p (.lst [.int 0, .int 1, .int 2, .int 3, .int 5, .int 6])) a = some o := fun a o h1 h2 => by
      have h3 := x a o h1 h2
      refine (Ex.new hp) _ _ ?_
      rw [upd_ne h1]
      exact h3
    have xxb : Ex B (upd (upd H' q (.lst [.int x', .int y'])) p (.lst [.int 0, .int 1, .int 2, .int 3, .int 5, .int 6])) := (xb.mut hqB).trans (Ex.new hp)
    have hqq : PoolAt (upd (upd H' q (.lst [.int x', .int y'])) p (.lst [.int 0, .int 1, .int 2, .int 3, .int 5, .int 6])) q := ⟨x', y', by rw [upd_ne (Ne.symm hpq), upd_same]⟩
    have hLL : (upd (upd H' q (.lst [.int x', .int y'])) p (.lst [.int 0, .int 1, .int 2, .int 3, .int 5, .int 6])) L = some (.lst (((List.range i).filter P).map fun (u : Nat) => V.int (u : Int))) := by rw [upd_ne (Ne.symm hpL), upd_ne hLq]; exact hL'
    have same : ∀ b : Bool, (List.range i).filter (fun y => if y = i then b else P y) = (List.range i).filter P := fun b => List.filter_congr fun y hy => by
      have := List.mem_range.mp hy
      rw [if_neg (by omega)]
    refine ite2 (fun _ => ?_) (fun _ => ?_)
    · refine ⟨_, rfl, _, hLL, ?_, fun y => if y = i then true else P y, fun a o h1 h2 => ?_, xxb.mut hLB, ?_, ?_⟩
      · have q1 := List.length_filter_le P (List.range i)
        rw [List.length_range] at q1
        rw [List.length_map]
        exact smallt (by omega)
      · have hal : a ≠ L := fun z => by rw [z, hLH] at h2; cases h2
        rw [upd_ne hal]
        exact xx a o h1 h2
      · obtain ⟨z1, z2, z3⟩ := hqq
        exact ⟨z1, z2, by rw [upd_ne (Ne.symm hLq)]; exact z3⟩
      · rw [upd_same, List.range_succ, List.filter_append, same, List.filter_cons, if_pos (by simp), List.map_append]
        show some (HO.lst (_ ++ [V.int ((0 : Int) + (i : Int))])) = some (HO.lst (_ ++ [V.int (i : Int)]))
        rw [Int.zero_add]
    · refine ⟨fun y => if y = i then false else P y, xx, xxb, hqq, ?_⟩
      rw [List.range_succ, List.filter_append, same, List.filter_cons, if_neg (by simp)]
      simp only [List.filter_nil, List.append_nil]
      exact hLL
  · rintro H' ⟨P, x, xb, hq', hL'⟩
    have g : GrP q B H B H' := ⟨Ex.refl B, xb, x, fun a h => .inl h⟩
    exact k _ P _ H' (g.own hLH hLB hL') hq' (.lst (.inl (.inl upd_same)) (da_nats _))
end
end Fx
set_option Elab.async false
set_option linter.all false
set_option maxRecDepth 100000
set_option autoImplicit false
namespace Fx
open PySem PySem.Spec PyProof.Rows L2
theorem fs_str (o : Option Nat) : flatD (strD o) = some (strV o) := by
  cases o <;> rfl
theorem ev_neS {K : PySem.W.Frag} {σ : Sg} {B : Hp} {ta tb : TE} {o : Option Nat} (ha : EvD K ta σ B (strD o)) (hb : EvD K tb σ B (strD o)) : EvT (tTest (tOp rNe ta tb)) σ B false :=
  et_test (K := K) (ev_ne ha hb (fs_str o) (fs_str o) (by cases o <;> rfl) (by simp))
/-! ### _law_by_parters -/
abbrev sBp : Stmt := topS 49
abbrev nBp : List Str := ["web", "looks", "kind", "things", "found", "one", "other", "many", "look"]
theorem scBp : FnScope nBp ["web", "looks", "kind"] (defScope sBp) := ⟨rfl, rfl, rfl, by decide +kernel, rfl, by decide +kernel, by decide +kernel⟩
abbrev sRi : Stmt := topS 50
abbrev nRi : List Str := ["web", "looks", "kind", "strength", "fewer", "one", "look"]
theorem scRi : FnScope nRi ["web", "looks", "kind"] (defScope sRi) := ⟨rfl, rfl, rfl, by decide +kernel, rfl, by decide +kernel, by decide +kernel⟩
def rRi (ds : List PyData) (r : PyData) : Prop := ∃ (W : Web) (L : List Nat) (k : Kd), W.Ok ∧ W.Lk L ∧ ds = [webD W, nD L, kdD k] ∧ r = .bool true
section
variable {P : Program} {w : World} {K : PySem.W.Frag} {mg : Str → Option Value} {base : Heap}
theorem ok_bp {f : Addr} {fd : FuncData} (D : Df K mg "_law_by_parters" sBp ["web", "looks", "kind"] f fd) (T : Bt mg) (G1 : Gd P w K mg base "things_of" ["web", "kind"] 1 (spD K rThs)) (G2 : Gd P w K mg base "parters_of" ["web", "one", "other"] 4 (spD K rPo)) :
    Gd P w K mg base "_law_by_parters" ["web", "looks", "kind"] 5 (spD K rSo) := by
  refine gd_ofD (N := nBp) D scBp (fun ds r ⟨W, L, k, _, _, e, _⟩ => by rw [e]; rfl) fun cdv A outer s H B vs ds r Q E hr e hd hR q => ?_
  obtain ⟨W, L, k, ok, hL, rfl, rfl⟩ := hR
  obtain ⟨wv, lv, kv, rfl, hw, hl, hk⟩ := da3 hd
  have few := hL.few ok
  have hle := ok.le
  have htl := ths_len ok k
  refine ⟨_, pss_cons (ps_set (i := 3) scBp.nd rfl (.inl rfl) (pe_fn G1 hr (pa_cons (pv 0) (pa_cons (pv 2) pa_nil))))
    (pss_cons (ps_set (i := 4) scBp.nd rfl (.inl rfl) pe_non)
    (pss_cons (ps_for PassesOwn.never rfl (pi_range1 rfl T.rng (pa_cons (be_len K T.len (pv 3)) pa_nil)) (pg_name (i := 5) scBp.nd rfl (.inl rfl))
      (pss_one (ps_for PassesOwn.never rfl (pi_range1 rfl T.rng (pa_cons (pv 5) pa_nil)) (pg_name (i := 6) scBp.nd rfl (.inl rfl))
        (pss_cons (ps_set (i := 7) scBp.nd rfl (.inl rfl) (be_len K T.len (pe_lc (own := [("look", 8)]) (g := gName 8) rfl scBp.nd (be_lstI K (pe_fn G2 hr (pa_cons (pv 0) (pa_cons (be_ixL K (pv 3) (pv 5)) (pa_cons (be_ixL K (pv 3) (pv 6)) pa_nil))))) (blkOk_by (N := nBp) (sc := defScope sBp) (by decide +kernel)) (fun _ _ _ _ _ => pg_name (i := 8) scBp.nd rfl (Or.inl rfl)) (fun _ _ _ _ _ => pts_one (bt_in K (pv 8) (pv 1))) (fun _ _ _ _ _ => pv 8))))
        (pss_one (ps_if (PW.pt (pw_or (pt_cmpR op_isN (pv 4) pe_non (nomark _)) (pw_or1 (pt_cmpR op_lt (pv 7) (pv 4) (nomark _))))) (pss_one (ps_set (i := 4) scBp.nd rfl (.inl rfl) (pv 7))) pss_nil))))))
    (pss_one (ps_ret (pv 4))))), ?_⟩
  refine q_asg (K := K) e (ev_call (ea2 (ev_var rfl hw) (ev_var rfl hk)) ⟨W, k, ok, rfl, rfl⟩) fun tv B1 H1 g1 htv => ?_
  refine q_asg (K := K) (B := B1) g1.bh ev_non fun v2 B2 H2 g2 d2 => ?_
  rw [Dpn d2]
  have hw1 := dm g1.bb hw
  have hl1 := dm g1.bb hl
  have e2 : Ex B1 H2 := g1.bh.trans g2.hh
  have eh2 : Ex H H2 := g1.hh.trans g2.hh
  refine sq (forR1_ (K := K) (B := B1) (n := (W.ths k).length) (ea1 ((ev_lenL (ds := (W.ths k).map thD) (ev_var rfl htv)).is (by rw [List.length_map]))) e2 (by omega) fun B4 H4 g4 => ?_)
  have e4 : Ex B1 H4 := e2.trans g4.hh
  refine for_range (lo := 0) (n := (W.ths k).length) (fun i σ H' => ∃ x5 x6 x7, σ = [some wv, some lv, some kv, some tv, some (strV (mn (W.vals L k i))), x5, x6, x7, none] ∧ Ex H4 H') ?_ ?_ ?_
  · exact ⟨none, none, none, rfl, Ex.refl _⟩
  · rintro i σ H' hi ⟨x5, x6, x7, rfl, x⟩
    have ei : (0 : Int) + (i : Int) = (i : Int) := Int.zero_add _
    rw [ei]
    refine forR1_ (K := K) (B := B1) (n := i) (ea1 (ev_var rfl (.int _))) (e4.trans x) (by omega) fun B5 H5 g5 => ?_
    have xB5 : Ex B1 H5 := (e4.trans x).trans g5.hh
    refine for_range (lo := 0) (n := i) (fun j σ H' => ∃ x6 x7, σ = [some wv, some lv, some kv, some tv, some (strV (mn (W.vals L k i ++ W.vals1 L k i j))), some (.int (i : Int)), x6, x7, none] ∧ Ex H5 H') ?_ ?_ ?_
    · exact ⟨x6, x7, by rw [show W.vals1 L k i 0 = [] from rfl, List.append_nil] <;> rfl, Ex.refl _⟩
    · rintro j σ H6 hj ⟨x6, x7, rfl, x2⟩
      have ej : (0 : Int) + (j : Int) = (j : Int) := Int.zero_add _
      rw [ej]
      have ⟨hti, hmi⟩ := Web.thA_mem (W := W) (k := k) (i := i) hi
      have ⟨htj, hmj⟩ := Web.thA_mem (W := W) (k := k) (i := j) (by omega)
      have xB6 : Ex B1 H6 := xB5.trans x2
      have at_ : ∀ {i t}, (W.ths k)[i]? = some t → ((W.ths k).map thD)[i]? = some (thD t) := fun h => by rw [List.getElem?_map, h]; rfl
      refine q_asg (K := K) (B := B1) (d := .int (W.np L (W.thA k i) (W.thA k j) : Nat)) xB6 ((ev_lenL (ef_lcL (K := K) ((List.range W.n).filter fun p => decide (W.dT p (W.thA k i) ≠ W.dT p (W.thA k j))) (fun (u : Nat) => PyData.int (u : Int)) (fun l => decide (l ∈ L)) (fun (u : Nat) => PyData.int (u : Int))
        (ev_call (ea3 (ev_var rfl hw1) (ev_ixL (i := i) (ds := (W.ths k).map thD) (ev_var rfl htv) (ev_var rfl (.int _)) (at_ hti)) (ev_ixL (i := j) (ds := (W.ths k).map thD) (ev_var rfl htv) (ev_var rfl (.int _)) (at_ htj))) ⟨W, _, _, ok, Web.isTh_of hmi, Web.isTh_of hmj, rfl, rfl⟩) ?_ (fun _ => rfl)
        (fun l hlm y B'' e'' hy => et_test (K := K) (ev_inN (ev_var rfl hy) (ev_var rfl (dm e'' hl1)))) (fun l hlm _ y B'' e'' hy => ev_var rfl hy)).toD).is ?_) fun v6 B6 H7 g6 d6 => ?_
      · have := List.length_filter_le (fun p => decide (W.dT p (W.thA k i) ≠ W.dT p (W.thA k j))) (List.range W.n)
        rw [List.length_range] at this
        omega
      · rw [List.length_map, hL.parters]
        rfl
      rw [Dpi d6]
      have eacc : mn (W.vals L k i ++ W.vals1 L k i (j + 1)) = mnS (mn (W.vals L k i ++ W.vals1 L k i j)) (W.np L (W.thA k i) (W.thA k j)) := by
        rw [Web.vals1_succ, ← List.append_assoc, mn_snoc]
      generalize mn (W.vals L k i ++ W.vals1 L k i j) = acc at eacc ⊢
      have x7' : Ex B1 H7 := xB6.trans g6.hh
      cases acc with
      | none =>
        refine s_if (B := B1) (b := true) x7' ((et_or (a := true) (b := true) (et_test (K := K) (ev_isN (ev_var rfl (str_dp none)) rfl)) (fun z => nomatch z)).is rfl) (fun _ H8 g7 => ?_) (fun z => nomatch z)
        refine as_ ⟨_, rfl, some (.int (j : Int)), some (.int (W.np L (W.thA k i) (W.thA k j) : Nat)), ?_, (x2.trans g6.hh).trans g7.hh⟩
        rw [eacc]
        rfl
      | some m =>
        refine s_if (B := B1) (b := decide ((W.np L (W.thA k i) (W.thA k j) : Int) < (m : Int))) x7' ((et_or (a := false) (b := decide ((W.np L (W.thA k i) (W.thA k j) : Int) < (m : Int))) (et_test (K := K) (ev_isN (ev_var rfl (str_dp (some m))) rfl)) (fun _ => et_test (K := K) (ev_I0b (g := fun i j => decide (i < j)) (ev_var rfl (.int _)) (ev_var rfl (str_dp (some m)))))).is (Bool.false_or _)) (fun hb H8 g7 => ?_) (fun hb H8 g7 => ?_)
        · refine as_ ⟨_, rfl, some (.int (j : Int)), some (.int (W.np L (W.thA k i) (W.thA k j) : Nat)), ?_, (x2.trans g6.hh).trans g7.hh⟩
          have := of_decide_eq_true hb
          rw [eacc, show mnS (some m) (W.np L (W.thA k i) (W.thA k j)) = some (W.np L (W.thA k i) (W.thA k j)) from if_pos (by omega)]
          rfl
        · refine ⟨some (.int (j : Int)), some (.int (W.np L (W.thA k i) (W.thA k j) : Nat)), ?_, (x2.trans g6.hh).trans g7.hh⟩
          have := of_decide_eq_false hb
          rw [eacc, show mnS (some m) (W.np L (W.thA k i) (W.thA k j)) = some m from if_neg (by omega)]
          rfl
    · rintro σ H6 ⟨x6, x7, rfl, x2⟩
      refine ⟨some (.int (i : Int)), x6, x7, ?_, (x.trans g5.hh).trans x2⟩
      rw [Web.vals_succ]
  · rintro σ H' ⟨x5, x6, x7, rfl, x⟩
    try dsimp only
    refine rt_ (te := tVar 4) ⟨_, rfl, q _ B H' (Gr.ext e ((eh2.trans g4.hh).trans x)) ?_⟩
    exact str_dp _
theorem ok_right {f : Addr} {fd : FuncData} (D : Df K mg "_law_right" sRi ["web", "looks", "kind"] f fd) (T : Bt mg) (G1 : Gd P w K mg base "strength_of" ["web", "looks", "kind"] 4 (spD K rSo)) (G2 : Gd P w K mg base "_law_by_parters" ["web", "looks", "kind"] 5 (spD K rSo))
    (G3 : Gd P w K mg base "is_tree" ["web"] 1 (spD K rIt)) (G4 : Gd P w K mg base "tree_strength" ["web", "looks", "kind"] 4 (spD K rTs)) (G5 : Gd P w K mg base "is_known" ["web", "looks", "kind"] 6 (spD K rIk)) (G6 : Gd P w K mg base "most_strength" ["web", "kind"] 5 (spD K rMs)) :
    Gd P w K mg base "_law_right" ["web", "looks", "kind"] 7 (spD K rRi) := by
  refine gd_ofD (N := nRi) D scRi (fun ds r ⟨W, L, k, _, _, e, _⟩ => by rw [e]; rfl) fun cdv A outer s H B vs ds r Q E hr e hd hR q => ?_
  obtain ⟨W, L, k, ok, hL, rfl, rfl⟩ := hR
  obtain ⟨wv, lv, kv, rfl, hw, hl, hk⟩ := da3 hd
  have few := hL.few ok
  have hle := ok.le
  refine ⟨_, pss_cons (ps_set (i := 3) scRi.nd rfl (.inr rfl) (pe_fn G1 hr (pa_cons (pv 0) (pa_cons (be_list K T.list (pv 1)) (pa_cons (pv 2) pa_nil)))))
    (pss_cons (ps_if (pt_cmpR op_ne (pv 3) (pe_fn G2 hr (pa_cons (pv 0) (pa_cons (pv 1) (pa_cons (pv 2) pa_nil)))) (nomark _)) pss_never pss_nil)
    (pss_cons (ps_if (PW.pt (pw_and (pt_val (pe_fn G3 hr (pa_cons (pv 0) pa_nil))) (pw_and1 (pt_cmpR op_ne (pe_fn G4 hr (pa_cons (pv 0) (pa_cons (be_list K T.list (pv 1)) (pa_cons (pv 2) pa_nil)))) (pv 3) (nomark _))))) pss_never pss_nil)
    (pss_cons (ps_if (pt_cmpR op_ne (pe_fn G5 hr (pa_cons (pv 0) (pa_cons (be_list K T.list (pv 1)) (pa_cons (pv 2) pa_nil)))) (pe_or (pe_cmpR op_isN (pv 3) pe_non (nomark _)) (pe_one (pe_cmpR op_gt (pv 3) pe_int (nomark _)))) (nomark _)) pss_never pss_nil)
    (pss_cons (ps_if (pt_cmpR op_isN (pv 3) pe_non (nomark _)) (pss_one (ps_ret (pe_cmpR op_isN (pe_fn G6 hr (pa_cons (pv 0) (pa_cons (pv 2) pa_nil))) pe_non (nomark _)))) pss_nil)
    (pss_cons (ps_setLc (i := 4) (own := [("look", 6)]) (g := gName 6) (tt := tYes) rfl scRi.nd rfl rfl (sw_true rfl rfl rfl (by decide +kernel)) (be_lstI K (pv 1)) (blkOk_by (N := nRi) (sc := defScope sRi) (by decide +kernel)) (fun _ _ _ _ _ => pg_name (i := 6) scRi.nd rfl (Or.inr rfl)) (fun _ _ _ _ _ => pts_nil)
      (fun _ _ _ _ _ => pe_fn G1 hr (pa_cons (pv 0) (pa_cons (pe_lc (own := [("one", 5)]) (g := gName 5) rfl scRi.nd (be_lstI K (pv 1)) (blkOk_by (by rfl)) (fun _ _ _ _ _ => pg_name (i := 5) scRi.nd rfl (Or.inl rfl)) (fun _ _ _ _ _ => pts_one (pt_cmpR op_ne (pv 5) (pv 6) (nomark _))) (fun _ _ _ _ _ => pv 5)) (pa_cons (pv 2) pa_nil)))))
    (pss_cons (ps_if (PW.pt (pw_or (PW.pt (pw_and (pt_cmpR op_gt (pv 3) pe_int (nomark _)) (pw_and1 (pt_cmpR op_ne (be_minL K T.min (pv 4)) (pe_op op_sub (pv 3) pe_int) (nomark _)))))
        (pw_or1 (pt_not (pt_val (be_all K T.all (pe_lc (own := [("one", 5)]) (g := gName 5) (tt := tYes) rfl scRi.nd (be_lstI K (pv 4)) (blkOk_by (N := nRi) (sc := defScope sRi) (by decide +kernel)) (fun _ _ _ _ _ => pg_name (i := 5) scRi.nd rfl (Or.inl rfl)) (fun _ _ _ _ _ => pts_nil) (fun _ _ _ _ _ => pe_cmpR op_le (pv 5) (pv 3) (nomark _))))))))) pss_never pss_nil)
    (pss_one (ps_ret (pe_cmpR op_ge (pe_fn G6 hr (pa_cons (pv 0) (pa_cons (pv 2) pa_nil))) (pv 3) (nomark _)))))))))), ?_⟩
  have so : ∀ (L' : List Nat), W.Lk L' → ∃ W' L'' k', Web.Ok W' ∧ W'.Lk L'' ∧ [webD W, nD L', kdD k] = [webD W', nD L'', kdD k'] ∧ strD (W.str L' k) = strD (W'.str L'' k') := fun L' h => ⟨W, L', k, ok, h, rfl, rfl⟩
  refine q_asg (K := K) e (ev_call (ea3 (ev_var rfl hw) (ef_listL (ev_var rfl hl)).toD (ev_var rfl hk)) (so L hL)) fun sv B1 H1 g1 hs => ?_
  have hw1 := dm g1.bb hw
  have hl1 := dm g1.bb hl
  have hk1 := dm g1.bb hk
  refine sq (s_no (B := B1) g1.bh (ev_neS (ev_var rfl hs) (ev_call (ea3 (ev_var rfl hw1) (ev_var rfl hl1) (ev_var rfl hk1)) (so L hL))) fun H2 x2 => ?_)
  have e2 : Ex B1 H2 := g1.bh.trans x2
  try dsimp only
  refine sq (s_no (B := B1) e2 ((et_and (a := decide W.tree) (b := false) (et_B (K := K) (ev_call (ea1 (ev_var rfl hw1)) ⟨W, ok, rfl, rfl⟩)) fun tr => ev_neS (ev_call (ea3 (ev_var rfl hw1) (ef_listL (ev_var rfl hl1)).toD (ev_var rfl hk1)) ⟨W, L, k, ok, of_decide_eq_true tr, hL, rfl, rfl⟩) (ev_var rfl hs)).is (Bool.and_false _)) fun H3 x3 => ?_)
  have e3 : Ex B1 H3 := e2.trans x3
  try dsimp only
  have known := ok.str_known (L := L) (k := k)
  have hik : EvD K (tCall (spD K rIk) [] E0 (tCons (tVar 0) (tCons (tCB (listR K) (tCons (tVar 1) tNil)) (tCons (tVar 2) tNil)))) [some wv, some lv, some kv, some sv, none, none, none] B1 (.bool (decide ((W.ths k).map (W.cd L)).Nodup)) := ev_call (ea3 (ev_var rfl hw1) (ef_listL (ev_var rfl hl1)).toD (ev_var rfl hk1)) ⟨W, L, k, ok, hL, rfl, rfl⟩
  have hmst : ∀ {σ : Sg} {B'}, Ex B1 B' → σ[0]? = some (some wv) → σ[2]? = some (some kv) → EvD K (tCall (spD K rMs) [] E0 (tCons (tVar 0) (tCons (tVar 2) tNil))) σ B' (strD (W.str (List.range W.n) k)) := fun x h0 h2 => ev_call (ea2 (ev_var h0 (dm x hw1)) (ev_var h2 (dm x hk1))) ⟨W, k, ok, rfl, rfl⟩
  cases ho : W.str L k with
  | none =>
    rw [ho] at hs
    rw [decide_eq_true (known.mpr (.inl ho))] at hik
    refine sq (s_no (B := B1) e3 (et_test (K := K) (ev_ne hik (ev_orV (a := true) (b := true) (ev_isN (ev_var rfl hs) rfl) (fun z => nomatch z)) rfl rfl rfl rfl)) fun H4 x4 => ?_)
    try dsimp only
    refine q_if (B := B1) (b := true) (e3.trans x4) (et_test (K := K) (ev_isN (ev_var rfl hs) rfl)) (fun _ H5 g5 => ?_) (fun z => nomatch z)
    have hmn : W.str (List.range W.n) k = none := Web.str_none.mpr (Web.str_none.mp ho)
    refine s_ret (K := K) (B := B1) g5.bh (ev_isN (b := true) (hmst (Ex.refl _) rfl rfl) (by rw [hmn]; rfl)) fun v B6 H6 g6 d6 => ?_
    exact q v B6 H6 (((g1.trans (Gr.ext g1.bh ((x2.trans x3).trans x4))).trans (Gr.ext (e3.trans x4) g5.hh)).trans g6) d6
  | some m =>
    rw [ho] at hs
    have hkn : decide ((W.ths k).map (W.cd L)).Nodup = decide (0 < m) := decide_eq_decide.mpr (known.trans ⟨fun h => by
      rcases h with h | ⟨r, h, h2⟩
      · rw [ho] at h; cases h
      · rw [ho] at h; cases h; exact h2, fun h => .inr ⟨m, ho, h⟩⟩)
    rw [hkn] at hik
    refine sq (s_no (B := B1) e3 (et_test (K := K) (ev_ne hik ((ev_orV (a := false) (b := decide (0 < m)) (ev_isN (ev_var rfl hs) rfl) (fun _ => (ev_I0b (g := fun i j => decide (j < i)) (ev_var rfl hs) ev_int).is (congrArg PyData.bool (decide_eq_decide.mpr (by omega))))).is (by rw [Bool.false_or])) rfl rfl rfl (by simp))) fun H4 x4 => ?_)
    try dsimp only
    have e4 : Ex B1 H4 := e3.trans x4
    refine q_if (B := B1) (b := false) e4 (et_test (K := K) (ev_isN (ev_var rfl hs) rfl)) (fun z => nomatch z) (fun _ H5 g5 => ?_)
    have few1 : ∀ l, ∃ r, W.str (L.filter fun x => decide (x ≠ l)) k = some r ∧ r ≤ m ∧ m ≤ r + 1 := fun l => ok.str_fewer hL ho l
    let fw : Nat → Nat := fun l => (W.str (L.filter fun x => decide (x ≠ l)) k).getD 0
    have hfw : ∀ l, W.str (L.filter fun x => decide (x ≠ l)) k = some (fw l) ∧ fw l ≤ m ∧ m ≤ fw l + 1 := fun l => by
      obtain ⟨r, h1, h2, h3⟩ := few1 l
      have : fw l = r := by show (W.str (L.filter fun x => decide (x ≠ l)) k).getD 0 = r; rw [h1]; rfl
      rw [this]
      exact ⟨h1, h2, h3⟩
    -- fewer
    refine q_asg (K := K) (B := B1) (d := .list ((L.map fun l => (fw l : Int)).map .int)) g5.bh ((ef_lcL (K := K) L (fun (u : Nat) => PyData.int (u : Int)) (fun _ => true) (fun l => .int (fw l : Int)) (ev_var rfl hl1) (by omega) (fun _ => rfl) (fun _ _ _ _ _ _ => tYes_ (K := K)) (fun l hlm _ y B' e' hy => ?_)).is ?_).toD fun fv B6 H6 g6 hf => ?_
    · refine (ev_call (ea3 (ev_var rfl (dm e' hw1)) ((ef_lcL (K := K) L (fun (u : Nat) => PyData.int (u : Int)) (fun x => decide (x ≠ l)) (fun (u : Nat) => PyData.int (u : Int)) (ev_var rfl (dm e' hl1)) (by omega) (fun _ => rfl) (fun z hz y2 B2 e2 hy2 => (et_test (K := K) (ev_neI (ev_var rfl hy2) (ev_var rfl (dm e2 hy)))).is ?_) (fun z hz _ y2 B2 e2 hy2 => ev_var rfl hy2)).toD) (ev_var rfl (dm e' hk1))) (so _ (hL.filter _))).is ?_
      · rw [← decide_not]
        exact decide_eq_decide.mpr (by omega)
      · rw [(hfw l).1]
        rfl
    · rw [List.filter_eq_self.mpr (fun _ _ => rfl), List.map_map]
      rfl
    have hs6 := dm g6.bb hs
    have t1 : EvT (tTest (tOp (rI0 fun i j => .bl (decide (j < i))) (tVar 3) (tC (.int 0)))) [some wv, some lv, some kv, some sv, some fv, none, none] B6 (decide (0 < m)) := (et_test (K := K) (ev_I0b (g := fun i j => decide (j < i)) (ev_var rfl hs6) ev_int)).is (decide_eq_decide.mpr (by omega))
    refine sq (s_no (B := B6) g6.bh ((et_or (a := false) (b := false) ((et_and (a := decide (0 < m)) (b := false) t1 fun hm => ?_).is (Bool.and_false _)) fun _ => ?_).is rfl) fun H7 x7 => ?_)
    · have hm := of_decide_eq_true hm
      obtain ⟨r, rfl⟩ : ∃ r, m = r + 1 := ⟨m - 1, by omega⟩
      obtain ⟨l0, hl0, hs0⟩ := ok.str_some_less hL ho
      have hl0f : fw l0 = r := by
        have := (hfw l0).1
        rw [hs0] at this
        exact (Option.some.inj this).symm
      refine (et_test (K := K) (ev_neI (ev_minL (m := (r : Int)) (ev_var rfl hf) ?_ ?_) (ev_I0 (g := fun i j => i - j) (ev_var rfl hs6) ev_int))).is ?_
      · rw [List.length_map]
        exact List.length_pos_of_mem hl0
      · intro z hz hmin
        obtain ⟨l, hlm, rfl⟩ := List.mem_map.mp hz
        have h1 := hmin (r : Int) (List.mem_map.mpr ⟨l0, hl0, by rw [hl0f]⟩)
        have := (hfw l).2.2
        omega
      · rw [decide_eq_true (by omega)]
        rfl
    · refine (et_not (et_B (K := K) (ev_allL (bs := L.map fun l => decide ((fw l : Int) ≤ (m : Int))) ((ef_lcL (K := K) L (fun l => PyData.int (fw l : Int)) (fun _ => true) (fun l => .bool (decide ((fw l : Int) ≤ (m : Int)))) ((ev_var rfl hf).is (by rw [List.map_map]; rfl)) (by omega) (fun _ => rfl) (fun _ _ _ _ _ _ => tYes_ (K := K)) (fun l hlm _ y B' e' hy => ev_I0b (g := fun i j => decide (i ≤ j)) (ev_var rfl hy) (ev_var rfl (dm e' hs6)))).is ?_).toD))).is ?_
      · rw [List.filter_eq_self.mpr (fun _ _ => rfl), List.map_map]
        rfl
      · have : (L.map fun l => decide ((fw l : Int) ≤ (m : Int))).all id = true := by
          rw [List.all_eq_true]
          intro b hb
          obtain ⟨l, _, rfl⟩ := List.mem_map.mp hb
          have := (hfw l).2.1
          exact decide_eq_true (by omega)
        rw [this]
        rfl
    · try dsimp only
      obtain ⟨r, hr2⟩ : ∃ r, W.str (List.range W.n) k = some r := by
        cases h2 : W.str (List.range W.n) k with
        | none =>
          have := (Web.str_none (W := W) (L := L) (k := k)).mpr (Web.str_none.mp h2)
          rw [ho] at this
          cases this
        | some r => exact ⟨r, rfl⟩
      have hmr := ok.str_most hL ho hr2
      refine s_ret (K := K) (B := B6) (g6.bh.trans x7) ((ev_I0b (g := fun i j => decide (j ≤ i)) ((hmst g6.bb rfl rfl).is (by rw [hr2]; rfl)) (ev_var rfl hs6)).is (d' := .bool true) (congrArg PyData.bool (decide_eq_true (show (m : Int) ≤ (r : Int) by omega)))) fun v B8 H8 g8 d8 => ?_
      exact q v B8 H8 (((((g1.trans (Gr.ext g1.bh ((x2.trans x3).trans x4))).trans (Gr.ext e4 g5.hh)).trans g6).trans (Gr.ext g6.bh x7)).trans g8) d8
end
end Fx
set_option Elab.async false
set_option linter.all false
set_option maxRecDepth 100000
set_option autoImplicit false
namespace Fx
open PySem PySem.Spec PyProof.Rows L2
/-! ### fits, plainly -/
noncomputable def hole (h : List (Option Nat)) (i : Nat) : List (Option Nat) := h.take i ++ [none] ++ h.drop (i + 1)
theorem hole_len {h : List (Option Nat)} {i : Nat} (hi : i < h.length) : (hole h i).length = h.length := by
  unfold hole
  rw [List.length_append, List.length_append, List.length_take, List.length_drop]
  simp only [List.length_cons, List.length_nil]
  omega
theorem hole_wr {α : Type} (P : α × Option Nat → Bool) (hP : ∀ c, P (c, none) = false) : ∀ (c : List α) (h : List (Option Nat)) (i : Nat), i < h.length → ((c.zip (hole h i)).filter P).length ≤ ((c.zip h).filter P).length
  | [], h, i, _ => by simp
  | a :: c, [], i, hi => by simp at hi
  | a :: c, o :: h, 0, _ => by
    show (((a, none) :: c.zip h).filter P).length ≤ (((a, o) :: c.zip h).filter P).length
    rw [List.filter_cons, hP, List.filter_cons]
    simp only [Bool.false_eq_true, if_false]
    split
    · rw [List.length_cons]; omega
    · omega
  | a :: c, o :: h, i + 1, hi => by
    have ih := hole_wr P hP c h i (by simpa using hi)
    show (((a, o) :: c.zip (hole h i)).filter P).length ≤ (((a, o) :: c.zip h).filter P).length
    rw [List.filter_cons, List.filter_cons]
    split
    · rw [List.length_cons, List.length_cons]; omega
    · exact ih
theorem fit_hole {W : Web} {L : List Nat} {h : List (Option Nat)} {lies i : Nat} {t : Th} (hi : i < h.length) (f : W.fit L h lies t = true) : W.fit L (hole h i) lies t = true := by
  unfold Web.fit at f ⊢
  have := of_decide_eq_true f
  refine decide_eq_true (Nat.le_trans ?_ this)
  exact hole_wr _ (fun c => rfl) _ _ _ hi
theorem fit_more {W : Web} {L : List Nat} {h : List (Option Nat)} {lies : Nat} {t : Th} (f : W.fit L h lies t = true) : W.fit L h (lies + 1) t = true := by
  unfold Web.fit at f ⊢
  have := of_decide_eq_true f
  exact decide_eq_true (by omega)
theorem eqv_th (t : Th) : PyData.eqv (thD t) (thD t) = true := by
  cases t with
  | pl v => exact (eqv_int _ _).trans (decide_eq_true rfl)
  | ti a b =>
    refine (eqv_pair _ _ _ _).trans ?_
    simp
theorem shaped_th (t : Th) : SeqAt.shaped (thD t) = true := by
  have ⟨h1, h2⟩ := sh_th t
  show (PyData.canLay0 (thD t) && decide (PyData.depth (thD t) ≤ 64)) = true
  rw [decide_eq_true (by omega), h1]
  rfl
theorem shaped_ths (l : List Th) : SeqAt.shaped (.list (l.map thD)) = true := by
  have ⟨h1, h2⟩ := sh_thl l
  have e : PyData.depth (.list (l.map thD)) ≤ 64 := by
    simp only [PyData.depth]
    omega
  show (PyData.canLay0 (.list (l.map thD)) && decide (PyData.depth (.list (l.map thD)) ≤ 64)) = true
  rw [decide_eq_true e]
  simp only [PyData.canLay0, h1, Bool.and_true]
abbrev sMf : Stmt := topS 51
abbrev nMf : List Str := ["pool", "web", "looks", "kind", "heard", "lies", "some", "beyond", "k", "look", "thing", "wider"]
theorem scMf : FnScope nMf ["pool", "web", "looks", "kind"] (defScope sMf) := ⟨rfl, rfl, rfl, by decide +kernel, rfl, by decide +kernel, by decide +kernel⟩
def spMf (K : PySem.W.Frag) : Sp := fun vs H Q _ => ∃ (B : Hp) (q : Addr) (W : Web) (L : List Nat) (k : Kd) (us : List V), vs = .ref q :: us ∧ Ex B H ∧ B q = none ∧ PoolAt H q ∧ W.Ok ∧ W.Lk L ∧ DpAll K B us [webD W, nD L, kdD k] ∧
  ∀ (H' : Hp), (∀ a o, a ≠ q → H a = some o → H' a = some o) → Ex B H' → PoolAt H' q → Q (.bl true) H'
section
variable {P : Program} {w : World} {K : PySem.W.Frag} {mg : Str → Option Value} {base : Heap}
theorem ok_mf {f : Addr} {fd : FuncData} (D : Df K mg "_law_more_fit" sMf ["pool", "web", "looks", "kind"] f fd) (T : Bt mg) (G1 : Gd P w K mg base "_law_take" ["pool", "many"] 1 spTake) (G2 : Gd P w K mg base "fitting_things" ["web", "looks", "kind", "heard", "lies"] 4 (spD K rFt)) :
    Gd P w K mg base "_law_more_fit" ["pool", "web", "looks", "kind"] 5 (spMf K) := by
  refine gd_of (N := nMf) D scMf (fun vs H Q E ⟨B, q, W, L, k, us, e, _, _, _, _, _, hd, _⟩ => by rw [e]; exact congrArg (· + 1) (da_len hd)) fun cdv A outer s H vs Q E hr ⟨B, q, W, L, k, us, ev, e, hqB, hq, ok, hL, hd, kk⟩ => ?_
  subst ev
  obtain ⟨wv, lv, kv, rfl, hw, hl, hk⟩ := da3 hd
  have few := hL.few ok
  have hle := ok.le
  have htl := ths_len ok k
  refine ⟨_, pss_cons (ps_setLc (i := 4) (own := [("look", 9)]) (g := gName 9) (tt := tYes) rfl scMf.nd rfl rfl (sw_true rfl rfl rfl (by decide +kernel)) (be_lstI K (pv 2)) (blkOk_by (N := nMf) (sc := defScope sMf) (by decide +kernel)) (fun _ _ _ _ _ => pg_name (i := 9) scMf.nd rfl (Or.inl rfl)) (fun _ _ _ _ _ => pts_nil) (fun _ _ _ _ _ => pe_fn G1 hr (pa_cons (pv 0) (pa_cons pe_int pa_nil))))
    (pss_cons (ps_set (i := 5) scMf.nd rfl (.inl rfl) (pe_fn G1 hr (pa_cons (pv 0) (pa_cons pe_int pa_nil))))
    (pss_cons (ps_set (i := 6) scMf.nd rfl (.inr rfl) (pe_fn G2 hr (pa_cons (pv 1) (pa_cons (be_list K T.list (pv 2)) (pa_cons (pv 3) (pa_cons (be_list K T.list (pv 4)) (pa_cons (pv 5) pa_nil)))))))
    (pss_cons (ps_set (i := 7) scMf.nd rfl (.inl rfl) (pe_lst (pa_cons (pe_fn G2 hr (pa_cons (pv 1) (pa_cons (be_list K T.list (pv 2)) (pa_cons (pv 3) (pa_cons (be_list K T.list (pv 4)) (pa_cons (pe_op op_add (pv 5) pe_int) pa_nil)))))) pa_nil)))
    (pss_cons (ps_for PassesOwn.never rfl (pi_range1 rfl T.rng (pa_cons (be_min2 T.min pe_int (be_len K T.len (pv 2))) pa_nil)) (pg_name (i := 8) scMf.nd rfl (.inl rfl))
      (pss_one (ps_expr (pe_bm PySem.F.plainAttrs_list PySem.F.slot_list_append PySem.F.type_list_append mt_append (pv 7) (pa_cons (pe_fn G2 hr (pa_cons (pv 1) (pa_cons (be_list K T.list (pv 2)) (pa_cons (pv 3)
        (pa_cons (pe_op op_cat (pe_op op_cat (pe_slice sl_list (pv 4) po_none (po_some (pv 8))) (pe_lst (pa_cons pe_non pa_nil))) (pe_slice sl_list (pv 4) (po_some (pe_op op_add (pv 8) pe_int)) po_none)) (pa_cons (pv 5) pa_nil)))))) pa_nil)))))
    (pss_one (ps_ret (be_all K T.all (pe_lc (own := [("wider", 11)]) (g := gName 11) (tt := tYes) rfl scMf.nd (be_lstI K (pv 7)) (blkOk_by (N := nMf) (sc := defScope sMf) (by decide +kernel)) (fun _ _ _ _ _ => pg_name (i := 11) scMf.nd rfl (Or.inr rfl)) (fun _ _ _ _ _ => pts_nil)
      (fun _ _ _ _ _ => be_all K T.all (pe_lc (own := [("thing", 10)]) (g := gName 10) (tt := tYes) rfl scMf.nd (be_lstI K (pv 6)) (blkOk_by (by rfl)) (fun _ _ _ _ _ => pg_name (i := 10) scMf.nd rfl (Or.inl rfl)) (fun _ _ _ _ _ => pts_nil) (fun _ _ _ _ _ => be_inD K (pv 10) (pv 11) (u65 hr)))))))))))), ?_⟩
  -- heard
  refine sq (as_ ?_)
  refine lcL_ (K := K) (B := B) (ds := L.map fun (u : Nat) => PyData.int (u : Int)) (ev_var rfl hl) e fun a xs B1 H1 Lh g1 hs hda hLh => ?_
  have xlen := da_len hda
  rw [List.length_map] at xlen
  have hq1 : PoolAt H1 q := hq.up g1.hh
  have hqB1 : B1 q = none := g1.off hqB hq.ne
  have hLq : Lh ≠ q := fun z => hq1.ne (by rw [← z]; exact hLh)
  have hLH : H Lh = none := g1.hh.free hLh
  have hLB1 : B1 Lh = none := g1.bh.free hLh
  refine lc_list (xs := xs) (fun i H' => ∃ ms : List Nat, ms.length = i ∧ (∀ a o, a ≠ q → H a = some o → H' a = some o) ∧ Ex B1 H' ∧ PoolAt H' q ∧ H' Lh = some (.lst (ms.map fun (u : Nat) => V.int (u : Int)))) ?_ ?_ ?_ ?_
  · exact ⟨[], rfl, fun a o _ h => (g1.hh.trans (Ex.new hLh)) _ _ h, g1.bh.trans (Ex.new hLh), hq1.up (Ex.new hLh), upd_same⟩
  · rintro i H' _ ⟨ms, _, _, xb, _⟩
    exact xb.sl hs
  · rintro i y H' hy ⟨ms, hms, x, xb, hq', hL'⟩
    have hil := (List.getElem?_eq_some_iff.mp hy).1
    refine ⟨rfl, ?_⟩
    refine take_ (q := q) (m := 4) (ax_var rfl) ax_int hq' (by omega) (by omega) fun r x' y' hr' => ?_
    refine ⟨ms.map fun (u : Nat) => V.int (u : Int), by rw [upd_ne hLq]; exact hL', by rw [List.length_map]; exact smallt (by omega), ms ++ [r], by rw [List.length_append]; simp [hms], fun a o h1 h2 => ?_, (xb.mut hqB1).mut hLB1, ?_, ?_⟩
    · have hal : a ≠ Lh := fun z => by rw [z, hLH] at h2; cases h2
      rw [upd_ne hal, upd_ne h1]
      exact x a o h1 h2
    · exact ⟨x', y', by rw [upd_ne (Ne.symm hLq), upd_same]⟩
    · rw [upd_same, List.map_append]
      rfl
  · rintro H2 ⟨ms, hms, x, xb, hq2, hL2⟩
    rw [xlen] at hms
    -- from here on: base B2 has the heard
    obtain ⟨h, hh, hhl⟩ : ∃ h : List (Option Nat), h = ms.map some ∧ h.length = L.length := ⟨_, rfl, by rw [List.length_map, hms]⟩
    have xb2 : Ex (upd B1 Lh (.lst (ms.map fun (u : Nat) => V.int (u : Int)))) H2 := xb.at hL2
    have hqB2 : (upd B1 Lh (.lst (ms.map fun (u : Nat) => V.int (u : Int)))) q = none := by rw [upd_ne (Ne.symm hLq)]; exact hqB1
    have xBB : Ex B (upd B1 Lh (.lst (ms.map fun (u : Nat) => V.int (u : Int)))) := g1.bb.trans (Ex.new hLB1)
    have hhv : Dp K (upd B1 Lh (.lst (ms.map fun (u : Nat) => V.int (u : Int)))) (.ref Lh) (hdD h) := by
      refine .lst (.inl (.inl upd_same)) ?_
      rw [hh, List.map_map]
      exact da_nats ms
    generalize (upd B1 Lh (.lst (ms.map fun (u : Nat) => V.int (u : Int)))) = B2 at xb2 hqB2 xBB hhv
    have hw2 := dm xBB hw
    have hl2 := dm xBB hl
    have hk2 := dm xBB hk
    try dsimp only
    -- lies
    refine sq (as_ ?_)
    refine take_ (q := q) (m := 4) (ax_var rfl) ax_int hq2 (by omega) (by omega) fun lies x' y' hlies => ?_
    have xb3 : Ex B2 (upd H2 q (.lst [.int x', .int y'])) := xb2.mut hqB2
    have hq3 : PoolAt (upd H2 q (.lst [.int x', .int y'])) q := pool_set x' y'
    have x3 : ∀ a o, a ≠ q → H a = some o → (upd H2 q (.lst [.int x', .int y'])) a = some o := fun a o h1 h2 => by rw [upd_ne h1]; exact x a o h1 h2
    generalize (upd H2 q (.lst [.int x', .int y'])) = H3 at xb3 hq3 x3
    try dsimp only
    have ft : ∀ (h' : List (Option Nat)) (l' : Nat), h'.length = L.length → rFt [webD W, nD L, kdD k, hdD h', .int (l' : Int)] (fitD W L k h' l') := fun h' l' hl' => ⟨W, L, k, h', l', ok, hL, hl', rfl, rfl⟩
    refine q_asg (K := K) (B := B2) xb3 (ev_call (ea_cons (ev_var rfl hw2) (ea_cons (ef_listL (ev_var rfl hl2)).toD (ea3 (ev_var rfl hk2) (ef_listL (ev_var rfl hhv)).toD (ev_var rfl (.int _))))) (ft h lies hhl)) fun sv B4 H4 g4 hsv => ?_
    have hq4 : PoolAt H4 q := hq3.up g4.hh
    have hqB4 : B4 q = none := g4.off hqB2 hq3.ne
    have hw4 := dm g4.bb hw2
    have hl4 := dm g4.bb hl2
    have hk4 := dm g4.bb hk2
    have hh4 := dm g4.bb hhv
    have x4 : ∀ a o, a ≠ q → H a = some o → H4 a = some o := fun a o h1 h2 => g4.hh _ _ (x3 a o h1 h2)
    try dsimp only
    refine sq (own_lst (K := K) (i := 7) (B := B4) g4.bh (ea1 (ev_call (ea_cons (ev_var rfl hw4) (ea_cons (ef_listL (ev_var rfl hl4)).toD (ea3 (ev_var rfl hk4) (ef_listL (ev_var rfl hh4)).toD ((ev_I0 (g := fun i j => i + j) (ev_var rfl (.int _)) ev_int).is (by rfl))))) (ft h (lies + 1) hhl))) (by simp) fun bl vs0 B5 H5 g5 d5 hbl => ?_)
    have hbH4 : H4 bl = none := g5.hh.free hbl
    have hb5 : B5 bl = none := g5.bh.free hbl
    have hbH : bl ≠ q → H bl = none := fun hne => by
      cases z : H bl with
      | none => rfl
      | some o => rw [x4 bl o hne z] at hbH4; cases hbH4
    have hbq : bl ≠ q := fun z => (hq4.up g5.hh).ne (by rw [← z]; exact hbl)
    have hqB5 : B5 q = none := g5.off hqB4 hq4.ne
    have e45 : Ex B4 B5 := g5.bb
    have hw5 := dm g5.bb hw4
    have hl5 := dm g5.bb hl4
    have hk5 := dm g5.bb hk4
    have hh5 := dm g5.bb hh4
    have hs5 := dm g5.bb hsv
    have x5 : ∀ a o, a ≠ q → H a = some o → (upd H5 bl (.lst vs0)) a = some o := fun a o h1 h2 => by
      have : a ≠ bl := fun z => by rw [z, hbH hbq] at h2; cases h2
      rw [upd_ne this]
      exact g5.hh _ _ (x4 a o h1 h2)
    have xb5 : Ex B5 (upd H5 bl (.lst vs0)) := g5.bh.mut hb5
    have hq5 : PoolAt (upd H5 bl (.lst vs0)) q := (hq4.up g5.hh).up (Ex.new hbl)
    have hbl5 : (upd H5 bl (.lst vs0)) bl = some (.lst vs0) := upd_same
    generalize (upd H5 bl (.lst vs0)) = H6 at x5 xb5 hq5 hbl5
    try dsimp only
    let bs : Nat → List (List (Option Nat) × Nat) := fun i => (h, lies + 1) :: (List.range i).map fun j => (hole h j, lies)
    have bsn : ∀ i, bs (i + 1) = bs i ++ [(hole h i, lies)] := fun i => by
      show (h, lies + 1) :: (List.range (i + 1)).map _ = _
      rw [List.range_succ, List.map_append]
      rfl
    have hmn : min (3 : Int) ((L.map fun (u : Nat) => PyData.int (u : Int)).length : Nat) = ((min 3 L.length : Nat) : Int) := by
      rw [List.length_map]
      omega
    refine sq (forR1_ (K := K) (B := B5) (n := min 3 L.length) (ea1 ((ev_min2 (i := 3) (j := ((L.map fun (u : Nat) => PyData.int (u : Int)).length : Nat)) ev_int (ev_lenL (ev_var rfl hl5))).is (congrArg PyData.int hmn))) xb5 (by omega) fun B7 H7 g7 => ?_)
    refine for_range (lo := 0) (n := min 3 L.length) (fun i σ H' => ∃ x8 Bi vs, σ = [some (.ref q), some wv, some lv, some kv, some (.ref Lh), some (.int (lies : Int)), some sv, some (.ref bl), x8, none, none, none] ∧ (∀ a o, a ≠ q → H a = some o → H' a = some o) ∧ Ex B5 Bi ∧ Ex Bi H' ∧ Bi bl = none ∧ Bi q = none ∧ PoolAt H' q ∧ H' bl = some (.lst vs) ∧ DpAll K Bi vs ((bs i).map fun p => fitD W L k p.1 p.2) ∧ vs.length = i + 1) ?_ ?_ ?_
    · refine ⟨none, B5, vs0, rfl, fun a o h1 h2 => g7.hh _ _ (x5 a o h1 h2), Ex.refl _, xb5.trans g7.hh, hb5, hqB5, hq5.up g7.hh, g7.hh _ _ hbl5, d5, ?_⟩
      have := da_len d5
      simpa using this
    · rintro i σ H' hi ⟨x8, Bi, vs, rfl, xx, e5, xi, hbi, hqi, hqp, hbl', hdv, hvl⟩
      have ei : (0 : Int) + (i : Int) = (i : Int) := Int.zero_add _
      rw [ei]
      have hhi := dm e5 hh5
      have ecat : cutD (h.map oD) none (some (i : Int)) ++ [PyData.none] ++ cutD (h.map oD) (some ((i + 1 : Nat) : Int)) none = (hole h i).map oD := by
        rw [cutD_to, cutD_from]
        unfold hole
        rw [List.map_append, List.map_append, List.map_take, List.map_drop]
        rfl
      have hlmap : (h.map oD).length = L.length := by rw [List.length_map, hhl]
      have cl1 : (cutD (h.map oD) none (some (i : Int))).length ≤ 7 := by
        rw [cutD_to, List.length_take]
        omega
      have cl2 : (cutD (h.map oD) (some ((i + 1 : Nat) : Int)) none).length ≤ 7 := by
        rw [cutD_from, List.length_drop]
        omega
      refine s_app (K := K) (B := Bi) xi hbl' (ax_var rfl) (ev_call (ea_cons (ev_var rfl (dm e5 hw5)) (ea_cons (ef_listL (ev_var rfl (dm e5 hl5))).toD (ea3 (ev_var rfl (dm e5 hk5))
        ((ef_cat (ef_cat (ef_sl (lo := none) (hi := some (i : Int)) (ev_var rfl hhi) eo_none (eo_some (K := K) (ev_var rfl (.int _)))) (ef_lst (ea1 ev_non) (by simp)) (by simp only [List.length_cons, List.length_nil]; omega)) (ef_sl (lo := some ((i + 1 : Nat) : Int)) (hi := none) (ev_var rfl hhi) (eo_some (K := K) ((ev_I0 (g := fun i j => i + j) (ev_var rfl (.int _)) ev_int).is (d' := .int ((i + 1 : Nat) : Int)) rfl)) eo_none) (by simp only [List.length_append, List.length_cons, List.length_nil]; omega)).is ecat).toD
        (ev_var rfl (.int _))))) (ft (hole h i) lies (by rw [hole_len (by omega), hhl]))) (by omega) fun v B' H'' g d => ?_
      have hbB' : B' bl = none := g.off hbi (by rw [hbl']; exact fun z => nomatch z)
      refine ⟨some (.int (i : Int)), B', vs ++ [v], rfl, fun a o h1 h2 => ?_, e5.trans g.bb, g.bh.mut hbB', hbB', g.off hqi hqp.ne, ?_, upd_same, ?_, by rw [List.length_append, hvl]; rfl⟩
      · have : a ≠ bl := fun z => by rw [z, hbH hbq] at h2; cases h2
        rw [upd_ne this]
        exact g.hh _ _ (xx a o h1 h2)
      · obtain ⟨z1, z2, z3⟩ := hqp.up g.hh
        exact ⟨z1, z2, by rw [upd_ne (Ne.symm hbq)]; exact z3⟩
      · rw [bsn, List.map_append]
        exact da_snoc (dms g.bb hdv) d
    · rintro σ H' ⟨x8, Bi, vs, rfl, xx, e5, xi, hbi, hqi, hqp, hbl', hdv, hvl⟩
      try dsimp only
      have xf : Ex (upd Bi bl (.lst vs)) H' := xi.at hbl'
      have efi : Ex Bi (upd Bi bl (.lst vs)) := Ex.new hbi
      have hbd : Dp K (upd Bi bl (.lst vs)) (.ref bl) (.list ((bs (min 3 L.length)).map fun p => fitD W L k p.1 p.2)) := .lst (.inl (.inl upd_same)) (dms efi hdv)
      have hqf : (upd Bi bl (.lst vs)) q = none := by rw [upd_ne (Ne.symm hbq)]; exact hqi
      have hsf := dm (e5.trans efi) hs5
      have wide : ∀ p, p ∈ bs (min 3 L.length) → ∀ t, W.fit L h lies t = true → W.fit L p.1 p.2 t = true := fun p hp t ht => by
        rcases List.mem_cons.mp hp with rfl | hp
        · exact fit_more ht
        · obtain ⟨j, hj, rfl⟩ := List.mem_map.mp hp
          have := List.mem_range.mp hj
          exact fit_hole (by omega) ht
      refine s_ret (K := K) (B := upd Bi bl (.lst vs)) xf (ev_allL (bs := (bs (min 3 L.length)).map fun _ => true) ((ef_lcL (K := K) (bs (min 3 L.length)) (fun p => fitD W L k p.1 p.2) (fun _ => true) (fun _ => .bool true) (ev_var rfl hbd) ?_ (fun _ => rfl) (fun _ _ _ _ _ _ => tYes_ (K := K)) (fun p hp _ y B' e' hy => ?_)).is ?_).toD) fun v B' H'' g d => ?_
      · show (_ :: _).length ≤ _
        rw [List.length_cons, List.length_map, List.length_range]
        omega
      · refine (ev_allL (bs := ((W.ths k).filter (W.fit L h lies)).map fun _ => true) ((ef_lcL (K := K) ((W.ths k).filter (W.fit L h lies)) thD (fun _ => true) (fun _ => .bool true) (ev_var rfl (dm e' hsf)) ?_ (fun _ => rfl) (fun _ _ _ _ _ _ => tYes_ (K := K)) (fun t ht _ y2 B2 e2 hy2 => ?_)).is ?_).toD).is ?_
        · exact Nat.le_trans (List.length_filter_le _ _) (by omega)
        · refine (ev_inD (ds := ((W.ths k).filter (W.fit L p.1 p.2)).map thD) (ev_var rfl hy2) (ev_var rfl (dm e2 hy)) (shaped_th t) (shaped_ths _)).is (congrArg PyData.bool ?_)
          have ⟨t1, t2⟩ := List.mem_filter.mp ht
          exact List.any_eq_true.mpr ⟨thD t, List.mem_map.mpr ⟨t, List.mem_filter.mpr ⟨t1, wide p hp t t2⟩, rfl⟩, eqv_th t⟩
        · rw [List.filter_eq_self.mpr (fun _ _ => rfl), List.map_map]
          rfl
        · refine congrArg PyData.bool ?_
          rw [List.all_eq_true]
          intro b hb
          obtain ⟨_, _, rfl⟩ := List.mem_map.mp hb
          rfl
      · rw [List.filter_eq_self.mpr (fun _ _ => rfl), List.map_map]
        rfl
      · have : ((bs (min 3 L.length)).map fun _ => true).all id = true := by
          rw [List.all_eq_true]
          intro b hb
          obtain ⟨_, _, rfl⟩ := List.mem_map.mp hb
          rfl
        rw [this] at d
        rw [Dpb d]
        exact kk H'' (fun a o h1 h2 => g.hh _ _ (xx a o h1 h2)) ((((xBB.trans g4.bb).trans g5.bb).trans (e5.trans efi)).trans (g.bb.trans g.bh)) (hqp.up g.hh)
end
end Fx
set_option Elab.async false
set_option linter.all false
set_option maxRecDepth 100000
set_option autoImplicit false
namespace Fx
open PySem PySem.Spec PyProof.Rows L2
def spWeb (K : PySem.W.Frag) : Sp := fun vs H Q _ => ∃ (q : Addr), vs = [.ref q, .int 7] ∧ PoolAt H q ∧
  ∀ (v : V) (W : Web) (B' H' : Hp), W.Ok → Ex B' H' → B' q = none → (∀ a o, a ≠ q → H a = some o → H' a = some o) → PoolAt H' q → Dp K B' v (webD W) → Q v H'
abbrev sLw : Stmt := topS 52
abbrev nLw : List Str := ["script", "cells", "k", "pool", "web", "looks", "kind"]
theorem scLw : FnScope nLw ["script"] (defScope sLw) := ⟨rfl, rfl, rfl, by decide +kernel, rfl, by decide +kernel, by decide +kernel⟩
def spLaw (K : PySem.W.Frag) : Sp := fun vs H Q _ => ∃ (a : Addr) (ns : List Int), vs = [.ref a] ∧ SqL K H a (ns.map V.int) ∧ ns.length ≤ 63 ∧ ∀ H', Q (.bl true) H'
section
variable {σ : Sg} {H : Hp} {t u : TT} {te : TE} {tu tw : TS} {D : Ends} {Q : Bool → Hp → Prop}
theorem if_ (h : t σ H fun b H1 => if b = true then tu D σ H1 else tw D σ H1) : tIfS t tu tw D σ H := h
theorem or_ (h : t σ H fun c H1 => if c = true then Q true H1 else u σ H1 Q) : tOr t u σ H Q := h
theorem and_ (h : t σ H fun c H1 => if c = true then u σ H1 Q else Q false H1) : tAnd t u σ H Q := h
theorem not_ (h : t σ H fun c H1 => Q (!c) H1) : tNot t σ H Q := h
theorem tB_ (h : te σ H fun x H1 => ∃ c, x = .bl c ∧ Q c H1) : tB te σ H Q := h
theorem ifF {a b : Prop} (h : b) : (if false = true then a else b) := h
theorem ifT {a b : Prop} (h : a) : (if true = true then a else b) := h
end
section
variable {P : Program} {w : World} {K : PySem.W.Frag} {mg : Str → Option Value} {base : Heap}
theorem ok_law {f : Addr} {fd : FuncData} (D : Df K mg "law" sLw ["script"] f fd) (T : Bt mg) (G1 : Gd P w K mg base "_law_cells" ["script", "many"] 1 (spCells K)) (G2 : Gd P w K mg base "_law_pool" ["cells", "k"] 1 (spPool K)) (G3 : Gd P w K mg base "_law_web" ["pool", "most"] 4 (spWeb K))
    (G4 : Gd P w K mg base "_law_looks" ["pool", "many"] 2 (spLooks K)) (G5 : Gd P w K mg base "_law_right" ["web", "looks", "kind"] 7 (spD K rRi)) (G6 : Gd P w K mg base "_law_more_fit" ["pool", "web", "looks", "kind"] 5 (spMf K)) :
    FnOk P w K mg base CX0 8 f fd ["script"] (spLaw K) := by
  refine D.F.ok (N := nLw) scLw (fun vs H Q E ⟨a, ns, e, _⟩ => by rw [e]; rfl) fun cdv A outer s H vs Q E hr ⟨a, ns, ev, hsq, hns, kk⟩ => ?_
  subst ev
  refine ⟨_, pss_cons (ps_set (i := 1) scLw.nd rfl (.inl rfl) (pe_fn G1 hr (pa_cons (pv 0) (pa_cons pe_int pa_nil))))
    (pss_cons (ps_for PassesOwn.never rfl (pi_range1 rfl T.rng (pa_cons (be_max2 T.max pe_int (be_len K T.len (pv 1))) pa_nil)) (pg_name (i := 2) scLw.nd rfl (.inl rfl))
      (pss_cons (ps_set (i := 3) scLw.nd rfl (.inl rfl) (pe_fn G2 hr (pa_cons (pv 1) (pa_cons (pv 2) pa_nil))))
      (pss_cons (ps_set (i := 4) scLw.nd rfl (.inl rfl) (pe_fn G3 hr (pa_cons (pv 3) (pa_cons pe_int pa_nil))))
      (pss_cons (ps_set (i := 5) scLw.nd rfl (.inl rfl) (pe_fn G4 hr (pa_cons (pv 3) (pa_cons (be_ixT K (pv 4) pe_int) pa_nil))))
      (pss_one (ps_for PassesOwn.never rfl (be_lstI K (pe_lst (pa_cons pe_str (pa_cons pe_str (pa_cons pe_str pa_nil))))) (pg_name (i := 6) scLw.nd rfl (.inl rfl))
        (pss_one (ps_if (PW.pt (pw_or (pt_not (pt_val (pe_fn G5 hr (pa_cons (pv 4) (pa_cons (pv 5) (pa_cons (pv 6) pa_nil)))))) (pw_or1 (pt_not (pt_val (pe_fn G6 hr (pa_cons (pv 3) (pa_cons (pv 4) (pa_cons (pv 5) (pa_cons (pv 6) pa_nil)))))))))) pss_never pss_nil))))))))
    (pss_one (ps_ret pe_bl))), ?_⟩
  have hsv : Dp K H (.ref a) (csD ns) := .lst hsq (da_ints ns)
  -- cells
  refine sq (as_ (call_ ?_))
  refine (ea2 (K := K) (B := H) (σ := [some (.ref a), none, none, none, none, none, none]) (ev_var (i := 0) rfl hsv) ev_int) H (Ex.refl H) _ fun us B0 H0 g0 d0 => ?_
  show spCells K (us ++ []) H0 _ _
  rw [List.append_nil]
  refine ⟨B0, ns, g0.bh, d0, fun cv cs B1 H1 g1 hcv hcl => ?_⟩
  have e1 : Ex B1 H1 := g1.bh
  try dsimp only
  have hmx : max (1 : Int) ((cs.map PyData.int).length : Nat) = ((max 1 cs.length : Nat) : Int) := by
    rw [List.length_map]
    omega
  refine sq (forR1_ (K := K) (B := B1) (n := max 1 cs.length) (ea1 ((ev_max2 (i := 1) (j := ((cs.map PyData.int).length : Nat)) ev_int (ev_lenL (ev_var rfl hcv))).is (congrArg PyData.int hmx))) e1 (by omega) fun B2 H2 g2 => ?_)
  have e2 : Ex B1 H2 := e1.trans g2.hh
  refine for_range (lo := 0) (n := max 1 cs.length) (fun i σ H' => ∃ x2 x3 x4 x5 x6, σ = [some (.ref a), some cv, x2, x3, x4, x5, x6] ∧ Ex B1 H') ?_ ?_ ?_
  · exact ⟨none, none, none, none, none, rfl, e2⟩
  · rintro i σ H3 hi ⟨x2, x3, x4, x5o, x6, rfl, x⟩
    have ei : (0 : Int) + (i : Int) = (i : Int) := Int.zero_add _
    rw [ei]
    -- pool
    refine sq (as_ (call_ ?_))
    refine (ea2 (K := K) (B := B1) (σ := [some (.ref a), some cv, some (.int (i : Int)), x3, x4, x5o, x6]) (ev_var (i := 1) rfl hcv) (ev_var (i := 2) rfl (.int _))) H3 x _ fun us B4 H4 g4 d4 => ?_
    show spPool K (us ++ []) H4 _ _
    rw [List.append_nil]
    refine ⟨B4, cs, i, g4.bh, d4, by omega, by omega, fun q p1 p2 H5 x5 hq4 hq5 => ?_⟩
    have xB5 : Ex B1 H5 := (x.trans g4.hh).trans x5
    have hqB1 : B1 q = none := (x.trans g4.hh).free hq4
    try dsimp only
    -- web
    refine sq (as_ (call_ ?_))
    refine ⟨_, rfl, ?_⟩
    refine ⟨q, rfl, ⟨p1, p2, hq5⟩, fun wv W B6 H6 ok e6 hqB6 x6' hq6 hwv => ?_⟩
    have xB6 : Ex B1 H6 := fun b o h => by
      refine x6' b o ?_ (xB5 b o h)
      intro z
      rw [z, hqB1] at h
      cases h
    have hle := ok.le
    try dsimp only
    -- looks
    refine sq (as_ (call_ ?_))
    refine ⟨_, rfl, ?_⟩
    refine (ea1 (K := K) (B := B6) (σ := [some (.ref a), some cv, some (.int (i : Int)), some (.ref q), some wv, x5o, x6]) (ev_ixT (i := 0) (d := .int (W.n : Int)) (ev_var (i := 4) rfl hwv) ev_int rfl)) H6 e6 _ fun us2 B7 H7 g7 d7 => ?_
    obtain ⟨nv, rfl, hnv⟩ := da1 d7
    rw [Dpi hnv]
    have hqB7 : B7 q = none := g7.off hqB6 hq6.ne
    refine ⟨B7, q, W.n, rfl, g7.bh, hqB7, hq6.up g7.hh, by omega, fun lv P B8 H8 g8 hq8 hlv => ?_⟩
    have hqB8 : B8 q = none := g8.off hqB7 (hq6.up g7.hh).ne
    have hL : W.Lk ((List.range W.n).filter P) := Web.Lk.of
    generalize (List.range W.n).filter P = L at hL hlv
    have hwv8 := dm (g7.bb.trans g8.bb) hwv
    have xB8 : Ex B1 H8 := fun b o h => by
      refine g8.hh b o ?_ (g7.hh _ _ (xB6 b o h))
      intro z
      rw [z, hqB1] at h
      cases h
    try dsimp only
    -- the kinds
    refine forL_ (K := K) (B := B8) (ds := [kdD .places, kdD .ties, kdD .all]) (ef_lst (ea3 ev_str ev_str ev_str) (by simp)).toD g8.bh fun la ys B9 H9 g9 hs9 d9 => ?_
    have hqB9 : B9 q = none := g9.off hqB8 hq8.ne
    have ylen := da_len d9
    refine for_list (xs := ys) (fun j σ H' => ∃ x6, σ = [some (.ref a), some cv, some (.int (i : Int)), some (.ref q), some wv, some lv, x6] ∧ Ex B1 H' ∧ Ex B9 H' ∧ PoolAt H' q) ?_ ?_ ?_ ?_
    · exact ⟨_, rfl, xB8.trans g9.hh, g9.bh, hq8.up g9.hh⟩
    · rintro j σ H' _ ⟨_, _, _, xb, _⟩
      exact xb.sl hs9
    · rintro j y σ H' hy ⟨x6'', rfl, xB, xb, hqp⟩
      obtain ⟨dy, hdy1, hdy2⟩ := da_getV d9 hy
      have hk : ∃ k : Kd, dy = kdD k := by
        match j, hdy1 with
        | 0, h => exact ⟨.places, (Option.some.inj h).symm⟩
        | 1, h => exact ⟨.ties, (Option.some.inj h).symm⟩
        | 2, h => exact ⟨.all, (Option.some.inj h).symm⟩
      obtain ⟨k, rfl⟩ := hk
      have hwv9 := dm g9.bb hwv8
      have hlv9 := dm g9.bb hlv
      -- right
      refine if_ (or_ ?_)
      refine (et_not (et_B (K := K) (ev_call (R := rRi) (r := .bool true) (ea3 (σ := [some (.ref a), some cv, some (.int (i : Int)), some (.ref q), some wv, some lv, some y]) (ev_var (i := 4) rfl hwv9) (ev_var (i := 5) rfl hlv9) (ev_var (i := 6) rfl hdy2)) ⟨W, L, k, ok, hL, rfl, rfl⟩))) H' xb _ fun H10 g10 => ?_
      refine ifF (not_ (tB_ (call_ ?_)))
      refine ⟨_, rfl, ?_⟩
      refine (ea3 (K := K) (B := B9) (σ := [some (.ref a), some cv, some (.int (i : Int)), some (.ref q), some wv, some lv, some y]) (ev_var (i := 4) rfl hwv9) (ev_var (i := 5) rfl hlv9) (ev_var (i := 6) rfl hdy2)) H10 g10.bh _ fun us3 B11 H11 g11 d11 => ?_
      show spMf K ((.ref q :: us3) ++ []) H11 _ _
      rw [List.append_nil]
      have hqp11 : PoolAt H11 q := (hqp.up g10.hh).up g11.hh
      refine ⟨B11, q, W, L, k, us3, rfl, g11.bh, g11.off hqB9 (hqp.up g10.hh).ne, hqp11, ok, hL, d11, fun H12 x12 xb12 hq12 => ?_⟩
      refine ⟨true, rfl, ?_⟩
      refine ⟨some y, rfl, fun b o h => ?_, g11.bb.trans xb12, hq12⟩
      refine x12 b o ?_ (g11.hh _ _ (g10.hh _ _ (xB b o h)))
      intro z
      rw [z, hqB1] at h
      cases h
    · rintro σ H' ⟨x6'', rfl, xB, xb, hqp⟩
      exact ⟨_, _, _, _, _, rfl, xB⟩
  · rintro σ H' ⟨x2, x3, x4, x5, x6, rfl, x⟩
    try dsimp only
    exact rt_ (kk H')
end
end Fx
set_option Elab.async false
set_option linter.all false
set_option maxRecDepth 100000
set_option autoImplicit false
namespace Fx
open PySem PySem.Spec PyProof.Rows L2
/-! ### a web under other names -/
structure Pre (n : Nat) (es : List (Nat × Nat)) : Prop where
  nd : es.Nodup
  lt : ∀ p, p ∈ es → p.1 < p.2 ∧ p.2 < n
  root : ∀ j, 1 ≤ j → j < n → ∃ i, i < j ∧ (i, j) ∈ es
def nmd (ms : List Nat) (p : Nat × Nat) : Nat × Nat := (min (ms.getD p.1 0) (ms.getD p.2 0), max (ms.getD p.1 0) (ms.getD p.2 0))
theorem nd_mapOn {α β : Type} (f : α → β) : ∀ {l : List α}, l.Nodup → (∀ a, a ∈ l → ∀ b, b ∈ l → f a = f b → a = b) → (l.map f).Nodup
  | [], _, _ => List.nodup_nil
  | a :: l, h, hf => by
    rw [List.map_cons, List.nodup_cons]
    have ⟨h1, h2⟩ := List.nodup_cons.mp h
    refine ⟨fun hm => ?_, nd_mapOn f h2 fun x hx y hy e => hf x (List.mem_cons_of_mem _ hx) y (List.mem_cons_of_mem _ hy) e⟩
    obtain ⟨b, hb, e⟩ := List.mem_map.mp hm
    rw [hf b (List.mem_cons_of_mem _ hb) a List.mem_cons_self e] at hb
    exact h1 hb
theorem Pre.web {n : Nat} {es : List (Nat × Nat)} (h : Pre n es) (h1 : 1 ≤ n) (h7 : n ≤ 7) {ms : List Nat} (hm : ms.Perm (List.range n)) {es2 : List (Nat × Nat)} (hp : es2.Perm (es.map (nmd ms))) : Web.Ok ⟨n, es2⟩ := by
  have hlen : ms.length = n := by rw [hm.length_eq, List.length_range]
  have hnd : ms.Nodup := hm.nodup_iff.mpr List.nodup_range
  have g : ∀ a, a < n → ∃ (q : a < ms.length), ms.getD a 0 = ms[a] := fun a ha => ⟨by omega, by rw [List.getD_eq_getElem?_getD, List.getElem?_eq_getElem (by omega)]; rfl⟩
  have glt : ∀ a, a < n → ms.getD a 0 < n := fun a ha => by
    obtain ⟨q, e⟩ := g a ha
    rw [e]
    exact List.mem_range.mp (hm.mem_iff.mp (List.getElem_mem q))
  have ginj : ∀ a b, a < n → b < n → ms.getD a 0 = ms.getD b 0 → a = b := fun a b ha hb e => by
    obtain ⟨q1, e1⟩ := g a ha
    obtain ⟨q2, e2⟩ := g b hb
    rw [e1, e2] at e
    exact (List.getElem_inj hnd).mp e
  have gsur : ∀ v, v < n → ∃ a, a < n ∧ ms.getD a 0 = v := fun v hv => by
    have : v ∈ ms := hm.mem_iff.mpr (List.mem_range.mpr hv)
    obtain ⟨a, ha, e⟩ := List.getElem_of_mem this
    obtain ⟨q, e1⟩ := g a (by omega)
    exact ⟨a, by omega, by rw [e1, e]⟩
  generalize hf : (fun a => ms.getD a 0) = f at *
  have hfa : ∀ a, ms.getD a 0 = f a := fun a => by rw [← hf]
  simp only [hfa] at glt ginj gsur
  have hnm : ∀ p, nmd ms p = (min (f p.1) (f p.2), max (f p.1) (f p.2)) := fun p => by
    unfold nmd
    rw [hfa, hfa]
  have hmem : ∀ x, x ∈ es2 ↔ ∃ p, p ∈ es ∧ (min (f p.1) (f p.2), max (f p.1) (f p.2)) = x := fun x => by
    rw [hp.mem_iff, List.mem_map]
    constructor
    · rintro ⟨p, h1, h2⟩; exact ⟨p, h1, by rw [← hnm]; exact h2⟩
    · rintro ⟨p, h1, h2⟩; exact ⟨p, h1, by rw [hnm]; exact h2⟩
  have adj : ∀ i j, (i, j) ∈ es → Web.adj ⟨n, es2⟩ (f i) (f j) := fun i j hij => by
    have hx := (hmem (min (f i) (f j), max (f i) (f j))).mpr ⟨(i, j), hij, rfl⟩
    rcases Nat.le_total (f i) (f j) with q | q
    · rw [Nat.min_eq_left q, Nat.max_eq_right q] at hx
      exact .inl hx
    · rw [Nat.min_eq_right q, Nat.max_eq_left q] at hx
      exact .inr hx
  refine ⟨h1, h7, ?_, ?_, ?_⟩
  · refine hp.nodup_iff.mpr (nd_mapOn _ h.nd fun a ha b hb e => ?_)
    rw [hnm, hnm] at e
    have ⟨a1, a2⟩ := h.lt a ha
    have ⟨b1, b2⟩ := h.lt b hb
    have e1 := congrArg Prod.fst e
    have e2 := congrArg Prod.snd e
    simp only at e1 e2
    have cases2 : (f a.1 = f b.1 ∧ f a.2 = f b.2) ∨ (f a.1 = f b.2 ∧ f a.2 = f b.1) := by omega
    rcases cases2 with ⟨q1, q2⟩ | ⟨q1, q2⟩
    · have r1 := ginj _ _ (by omega) (by omega) q1
      have r2 := ginj _ _ (by omega) (by omega) q2
      exact Prod.ext r1 r2
    · have r1 := ginj _ _ (by omega) (by omega) q1
      have r2 := ginj _ _ (by omega) (by omega) q2
      omega
  · intro x hx
    obtain ⟨p, hpe, rfl⟩ := (hmem x).mp hx
    have ⟨a1, a2⟩ := h.lt p hpe
    have g1 := glt p.1 (by omega)
    have g2 := glt p.2 a2
    have ne : f p.1 ≠ f p.2 := fun e => by
      have := ginj _ _ (by omega) a2 e
      omega
    show min (f p.1) (f p.2) < max (f p.1) (f p.2) ∧ max (f p.1) (f p.2) < n
    omega
  · intro S s0 hs v hv
    have key : ∀ j, j < n → (S (f j) ↔ S (f 0)) := by
      intro j
      induction j using Nat.strongRecOn with
      | ind j ih =>
        intro hj
        by_cases h0 : j = 0
        · rw [h0]
        · obtain ⟨i, hi, hie⟩ := h.root j (by omega) hj
          have a := adj i j hie
          refine Iff.trans ?_ (ih i hi (by omega))
          exact ⟨fun q => hs _ _ a.symm q, fun q => hs _ _ a q⟩
    obtain ⟨a0, ha0, e0⟩ := gsur 0 (by omega)
    obtain ⟨b, hb, eb⟩ := gsur v hv
    rw [← e0] at s0
    rw [← eb]
    exact (key b hb).mpr ((key a0 ha0).mp s0)
/-! ### lists of pairs -/
section
variable {K : PySem.W.Frag} {σ : Sg} {B H : Hp} {ta tb te : TE} {t : TT}
theorem da_permM {α : Type} (dat : α → PyData) : ∀ {ws vs : List V}, ws.Perm vs → ∀ {as : List α}, DpAll K H vs (as.map dat) → ∃ bs : List α, bs.Perm as ∧ DpAll K H ws (bs.map dat) := by
  intro ws vs h
  induction h with
  | nil => intro as hd; exact ⟨as, List.Perm.refl _, hd⟩
  | cons x p ih =>
    intro as hd
    cases as with
    | nil => cases hd
    | cons a as =>
      cases hd with
      | cons h1 h2 =>
        obtain ⟨bs, hb, hd⟩ := ih h2
        exact ⟨a :: bs, hb.cons a, .cons h1 hd⟩
  | swap x y l =>
    intro as hd
    cases as with
    | nil => cases hd
    | cons a as =>
      cases as with
      | nil => cases hd with | cons h1 h2 => cases h2
      | cons b as =>
        cases hd with
        | cons h1 h2 =>
          cases h2 with
          | cons h3 h4 => exact ⟨b :: a :: as, List.Perm.swap _ _ _, .cons h3 (.cons h1 h4)⟩
  | trans p1 p2 ih1 ih2 =>
    intro as hd
    obtain ⟨bs, hb, hd1⟩ := ih2 hd
    obtain ⟨cs, hc, hd2⟩ := ih1 hd1
    exact ⟨cs, hc.trans hb, hd2⟩
/-- over a list of pairs: two names -/
theorem ef_lcP {α : Type} (as : List α) (da db : α → PyData) (f : α → Bool) (g : α → PyData) {tl : TE} {j k : Nat} {vs : List Nat} (h : EvD K tl σ B (.list (as.map fun a => .tuple [da a, db a]))) (hz : as.length ≤ 40000)
    (hw : ∀ x y, wipe (((wipe σ vs).set j (some x)).set k (some y)) vs = wipe σ vs)
    (ht : ∀ a, a ∈ as → ∀ x y B', Ex B B' → Dp K B' x (da a) → Dp K B' y (db a) → EvT t (((wipe σ vs).set j (some x)).set k (some y)) B' (f a))
    (he : ∀ a, a ∈ as → f a = true → ∀ x y B', Ex B B' → Dp K B' x (da a) → Dp K B' y (db a) → EvD K te (((wipe σ vs).set j (some x)).set k (some y)) B' (g a)) :
    EvF K (tLc (iList K tl) (gTup K 2 (gCons (gName j) (gCons (gName k) gNil))) t te vs) σ B ((as.filter f).map g) := fun H x Q q =>
  h H x _ fun v B1 H1 g1 d1 => by
    obtain ⟨a, xs, rfl, hs, hd⟩ := Dpl d1
    refine ⟨a, rfl, ⟨xs, g1.bh.sl hs⟩, fun L hL => lc_list (xs := xs) (Lw K B1 H1 L as f g) (Lw.zero g1.bh hL) (fun i H' _ w => ?_) (fun i y H' hi w => ?_) fun H' w => ?_⟩
    · obtain ⟨Bi, acc, e1, e2, _⟩ := w
      exact (e1.trans e2).sl hs
    · obtain ⟨d, hd1, hd2⟩ := da_getV hd hi
      rw [List.getElem?_map] at hd1
      cases ha : as[i]? with
      | none =>
        rw [ha] at hd1
        cases hd1
      | some z =>
        rw [ha] at hd1
        cases hd1
        have hm : z ∈ as := List.mem_of_getElem? ha
        obtain ⟨T, us, rfl, hsT, hus⟩ := Dpt hd2
        obtain ⟨p1, p2, rfl, hp1, hp2⟩ := da2 hus
        obtain ⟨Bi, acc, e1, e2, _⟩ := id w
        exact ⟨T, [p1, p2], rfl, (e1.trans e2).st hsT, rfl, p1, [p2], rfl, p2, [], rfl, rfl, hw p1 p2, w.turn hL ha hz (fun B' e => ht z hm p1 p2 B' (g1.bb.trans e) (dm e hp1) (dm e hp2)) (fun hf B' e => he z hm hf p1 p2 B' (g1.bb.trans e) (dm e hp1) (dm e hp2))⟩
    · have hl := da_len hd
      rw [List.length_map] at hl
      exact w.done (by omega) hL g1 q
/-- tuple(sorted(pairs)) -/
theorem ev_tupSort {as : List (Nat × Nat)} (ha : EvD K ta σ B (.list (as.map tieD))) (hb : ∀ p, p ∈ as → p.1 < 64 ∧ p.2 < 64) (hl : as.length < 64) (x : Ex B H) {Q : VK}
    (q : ∀ v bs B' H', bs.Perm as → Gr B H B' H' → Dp K B' v (tiesD bs) → Q v H') : tCB (tupR K) (tCons (tCB (rSortU K 2 64) (tCons ta tNil)) tNil) σ H Q :=
  ha H x _ fun v B1 H1 g1 d1 => by
    obtain ⟨a, xs, rfl, hs, hd⟩ := Dpl d1
    have hlen := da_len hd
    rw [List.length_map] at hlen
    refine ⟨a, xs, rfl, g1.bh.sl hs, by omega, fun y hy => ?_, fun ys p hp _ hpn => ?_⟩
    · obtain ⟨i, hi⟩ := List.getElem?_of_mem hy
      obtain ⟨d, hd1, hd2⟩ := da_getV hd hi
      rw [List.getElem?_map] at hd1
      cases hz : as[i]? with
      | none => rw [hz] at hd1; cases hd1
      | some z =>
        rw [hz] at hd1
        cases hd1
        have hm := hb z (List.mem_of_getElem? hz)
        obtain ⟨T, us, rfl, hsT, hus⟩ := Dpt hd2
        obtain ⟨p1, p2, rfl, hp1, hp2⟩ := da2 hus
        rw [Dpi hp1, Dpi hp2] at hsT
        refine ⟨[(z.1 : Int), (z.2 : Int)], ⟨T, rfl, g1.bh.st hsT⟩, rfl, fun m hm' => ?_⟩
        simp only [List.mem_cons, List.not_mem_nil, or_false] at hm'
        rcases hm' with rfl | rfl
        · constructor <;> omega
        · constructor <;> omega
    · obtain ⟨bs, hbs, hdb⟩ := da_permM tieD hp hd
      have g2 : Gr B1 H1 B1 (upd H1 p (.lst ys)) := Gr.tmp g1.bh hpn
      refine ⟨p, ys, rfl, .inl ⟨SqL.of upd_same, fun l hln => ?_⟩⟩
      exact q _ bs _ _ hbs ((g1.trans g2).trans (Gr.new g2.bh hln)) (.tup (.inl (.inl upd_same)) (dms (Ex.new (g2.bh.free hln)) hdb))
end
theorem be_sortT (K : PySem.W.Frag) {X : Cx} {e : Expr} {te : TE} {p pos : Pos} (hm : X.mg "sorted" = none) (ha : PE X e te) (hK : X.K = K := by rfl) (hg : Gl X "sorted" := by rfl) (hs : starEach [e] X.env = (false, eval e X.env) :: starEach [] X.env := by rfl) : PE X (.Call (.Name "sorted" p) [e] [] pos) (tCB (rSortU K 2 64) (tCons te tNil)) := by
  subst hK; exact pe_callB (cr_sortT (by decide)) hg hm PyProof.Rows.boot_sorted (pa_cons ha pa_nil hs) (he := hs)
/-! ### _law_named -/
abbrev sNm : Stmt := topS 46
abbrev nNm : List Str := ["pool", "many", "ties", "names", "a", "b"]
theorem scNm : FnScope nNm ["pool", "many", "ties"] (defScope sNm) := ⟨rfl, rfl, rfl, by decide +kernel, rfl, by decide +kernel, by decide +kernel⟩
def spNm (K : PySem.W.Frag) : Sp := fun vs H Q _ => ∃ (B : Hp) (q : Addr) (n : Nat) (tv : V) (es : List (Nat × Nat)), vs = [.ref q, .int (n : Int), tv] ∧ Ex B H ∧ B q = none ∧ PoolAt H q ∧ 1 ≤ n ∧ n ≤ 7 ∧ Pre n es ∧ es.length < 64 ∧ Dp K B tv (.list (es.map tieD)) ∧
  ∀ (v : V) (W : Web) (B' H' : Hp), W.Ok → Ex B' H' → B' q = none → (∀ a o, a ≠ q → H a = some o → H' a = some o) → PoolAt H' q → Dp K B' v (webD W) → Q v H'
section
variable {P : Program} {w : World} {K : PySem.W.Frag} {mg : Str → Option Value} {base : Heap}
theorem ok_nm {f : Addr} {fd : FuncData} (D : Df K mg "_law_named" sNm ["pool", "many", "ties"] f fd) (T : Bt mg) (G : Gd P w K mg base "_law_some" ["pool", "menu", "many"] 2 (spSome K)) : Gd P w K mg base "_law_named" ["pool", "many", "ties"] 3 (spNm K) := by
  refine gd_of (N := nNm) D scNm (fun vs H Q E ⟨B, q, n, tv, es, e, _⟩ => by rw [e]; rfl) fun cdv A outer s H vs Q E hr ⟨B, q, n, tv, es, ev, e, hqB, hq, h1, h7, pre, hel, htv, kk⟩ => ?_
  subst ev
  refine ⟨_, pss_cons (ps_set (i := 3) scNm.nd rfl (.inr rfl) (pe_fn G hr (pa_cons (pv 0) (pa_cons (pe_listRg rfl (by rfl) T.list (prg_1 (by rfl) T.rng (pv 1))) (pa_cons (pv 1) pa_nil)))))
    (pss_one (ps_ret (pe_tup (pa_cons (pv 1) (pa_cons (be_tuple K T.tuple (be_sortT K T.sorted (pe_lc (own := [("a", 4), ("b", 5)]) (tt := tYes) rfl scNm.nd (be_lstI K (pv 2)) (blkOk_by (N := nNm) (sc := defScope sNm) (by decide +kernel))
      (fun _ _ _ _ _ => be_pg2 K (pg_name (i := 4) scNm.nd rfl (Or.inl rfl)) (pg_name (i := 5) scNm.nd rfl (Or.inl rfl))) (fun _ _ _ _ _ => pts_nil)
      (fun _ _ _ _ _ => pe_tup (pa_cons (be_min2 T.min (be_ixL K (pv 3) (pv 4)) (be_ixL K (pv 3) (pv 5))) (pa_cons (be_max2 T.max (be_ixL K (pv 3) (pv 4)) (be_ixL K (pv 3) (pv 5))) pa_nil)))))) pa_nil))))), ?_⟩
  -- names
  refine sq (as_ (call_ ?_))
  refine ⟨_, rfl, ?_⟩
  refine (ef_lstRg (K := K) (n := n) (B := B) (σ := [some (.ref q), some (.int (n : Int)), some tv, none, none, none]) (ev_var (i := 1) rfl (.int _)) (by omega)).toD H e _ fun mv B1 H1 g1 hmv => ?_
  refine ⟨_, rfl, ?_⟩
  refine ⟨B1, q, List.range n, mv, by rw [List.length_range]; rfl, g1.bh, g1.off hqB hq.ne, hq.up g1.hh, hmv, by rw [List.length_range]; omega, fun nv ms B2 H2 hperm g2 hq2 hnv => ?_⟩
  have hqB1 : B1 q = none := g1.off hqB hq.ne
  have hqB2 : B2 q = none := g2.off hqB1 (hq.up g1.hh).ne
  have x2 : ∀ a o, a ≠ q → H a = some o → H2 a = some o := fun a o h1 h2 => g2.hh a o h1 (g1.hh a o h2)
  have htv2 := dm (g1.bb.trans g2.bb) htv
  have hml : ms.length = n := by rw [hperm.length_eq, List.length_range]
  try dsimp only
  refine rt_ ?_
  -- the tuple
  refine ⟨_, rfl, ?_⟩
  have nat_ : ∀ a, a < n → (ms.map fun (u : Nat) => PyData.int (u : Int))[a]? = some (.int ((ms.getD a 0 : Nat) : Int)) := fun a ha => by
    rw [List.getElem?_map, List.getD_eq_getElem?_getD, List.getElem?_eq_getElem (by omega)]
    rfl
  refine ev_tupSort (K := K) (B := B2) (as := es.map (nmd ms)) ((ef_lcP (K := K) es (fun p => .int (p.1 : Int)) (fun p => .int (p.2 : Int)) (fun _ => true) (fun p => tieD (nmd ms p)) (ev_var rfl htv2) (by omega) (fun _ _ => rfl) (fun _ _ _ _ _ _ _ _ => tYes_ (K := K)) (fun p hp _ y1 y2 B' e' hy1 hy2 => ?_)).is ?_).toD ?_ ?_ g2.bh fun tv2 bs B3 H3 hbs g3 htv3 => ?_
  · have ⟨a1, a2⟩ := pre.lt p hp
    have i1 := nat_ p.1 (by omega)
    have i2 := nat_ p.2 a2
    have m1 : EvD K (tOp (rIxL K) (tVar 3) (tVar 4)) [some (.ref q), some (.int (n : Int)), some tv, some nv, some y1, some y2] B' (.int ((ms.getD p.1 0 : Nat) : Int)) := ev_ixL (i := p.1) (ev_var rfl (dm e' hnv)) (ev_var rfl hy1) i1
    have m2 : EvD K (tOp (rIxL K) (tVar 3) (tVar 5)) [some (.ref q), some (.int (n : Int)), some tv, some nv, some y1, some y2] B' (.int ((ms.getD p.2 0 : Nat) : Int)) := ev_ixL (i := p.2) (ev_var rfl (dm e' hnv)) (ev_var rfl hy2) i2
    refine (ev_tup (ea2 (ev_min2 m1 m2) (ev_max2 m1 m2)) (by simp)).is ?_
    unfold tieD nmd
    rw [show min ((ms.getD p.1 0 : Nat) : Int) ((ms.getD p.2 0 : Nat) : Int) = ((min (ms.getD p.1 0) (ms.getD p.2 0) : Nat) : Int) by omega, show max ((ms.getD p.1 0 : Nat) : Int) ((ms.getD p.2 0 : Nat) : Int) = ((max (ms.getD p.1 0) (ms.getD p.2 0) : Nat) : Int) by omega]
  · rw [List.filter_eq_self.mpr (fun _ _ => rfl), List.map_map]
    rfl
  · intro p hp
    have := (pre.web h1 h7 hperm (List.Perm.refl _)).lt p hp
    simp only at this
    omega
  · rw [List.length_map]
    exact hel
  · refine ⟨small (by simp), fun T hT => ?_⟩
    have hTq : T ≠ q := fun z => ((hq2.up g3.hh).ne (by rw [← z]; exact hT))
    refine kk _ ⟨n, bs⟩ (upd B3 T (.tup [.int (n : Int), tv2])) _ (pre.web h1 h7 hperm hbs) g3.bh.both ?_ (fun a o h1 h2 => Ex.new hT _ _ (g3.hh _ _ (x2 a o h1 h2))) ((hq2.up g3.hh).up (Ex.new hT)) ?_
    · rw [upd_ne (Ne.symm hTq)]
      exact g3.off hqB2 hq2.ne
    · exact .tup (.inl (.inl upd_same)) (.cons (.int _) (.cons (dm (Ex.new (g3.bh.free hT)) htv3) .nil))
end
end Fx
set_option Elab.async false
set_option linter.all false
set_option maxRecDepth 100000
set_option autoImplicit false
namespace Fx
open PySem PySem.Spec PyProof.Rows L2
/-! ### the ties so far: a dict with pairs for keys -/
def kk (p : Nat × Nat) : List Key := [Sum.inl (p.1 : Int), Sum.inl (p.2 : Int)]
theorem kk_inj {p r : Nat × Nat} (h : kk p = kk r) : p = r := by
  unfold kk at h
  have h1 := (List.cons.inj h).1
  have h2 := (List.cons.inj (List.cons.inj h).2).1
  have e1 : (p.1 : Int) = (r.1 : Int) := Sum.inl.inj h1
  have e2 : (p.2 : Int) = (r.2 : Int) := Sum.inl.inj h2
  exact Prod.ext (by omega) (by omega)
theorem kk_mem {es : List (Nat × Nat)} {p : Nat × Nat} : kk p ∈ es.map kk ↔ p ∈ es := by
  constructor
  · intro h
    obtain ⟨r, hr, e⟩ := List.mem_map.mp h
    rw [← kk_inj e]
    exact hr
  · exact fun h => List.mem_map.mpr ⟨p, h, rfl⟩
theorem any_mem (kvs : List (List Key × V)) (k : List Key) : (kvs.any fun kv => decide (kv.1 = k)) = true ↔ k ∈ kvs.map fun (kv : List Key × V) => kv.1 := by
  rw [List.any_eq_true, List.mem_map]
  constructor
  · rintro ⟨x, h1, h2⟩; exact ⟨x, h1, of_decide_eq_true h2⟩
  · rintro ⟨x, h1, h2⟩; exact ⟨x, h1, decide_eq_true h2⟩
def ins (es : List (Nat × Nat)) (p : Nat × Nat) : List (Nat × Nat) := if p ∈ es then es else es ++ [p]
theorem mem_ins {es : List (Nat × Nat)} {p r : Nat × Nat} : r ∈ ins es p ↔ r ∈ es ∨ r = p := by
  unfold ins
  by_cases h : p ∈ es
  · rw [if_pos h]
    exact ⟨.inl, fun q => q.elim id fun e => by rw [e]; exact h⟩
  · rw [if_neg h, List.mem_append, List.mem_singleton]
theorem ins_nd {es : List (Nat × Nat)} {p : Nat × Nat} (h : es.Nodup) : (ins es p).Nodup := by
  unfold ins
  by_cases hp : p ∈ es
  · rw [if_pos hp]; exact h
  · rw [if_neg hp]
    exact List.nodup_append.mpr ⟨h, by simp, fun c hc c' hc' e => by
      rw [List.mem_singleton] at hc'
      exact hp (by rw [← hc', ← e]; exact hc)⟩
theorem put_keys {kvs : List (List Key × V)} {es : List (Nat × Nat)} {p : Nat × Nat} {v : V} (h : kvs.map (·.1) = es.map kk) : (putK kvs (kk p) v).map (·.1) = (ins es p).map kk := by
  unfold putK ins
  have hm := any_mem kvs (kk p)
  rw [h] at hm
  by_cases hp : p ∈ es
  · rw [if_pos (hm.mpr (kk_mem.mpr hp)), if_pos hp, List.map_map, ← h]
    refine List.map_congr_left fun kv _ => ?_
    show (if kv.1 = kk p then (kv.1, v) else kv).1 = kv.1
    split <;> rfl
  · rw [if_neg (fun q => hp (kk_mem.mp (hm.mp q))), if_neg hp, List.map_append, List.map_append, h]
    rfl
structure WW (H0 H : Hp) (q d : Addr) (m : Nat) (es : List (Nat × Nat)) : Prop where
  ex : ∀ a o, a ≠ q → H0 a = some o → H a = some o
  nd0 : H0 d = none
  dq : d ≠ q
  pool : PoolAt H q
  at_ : ∃ kvs : List (List Key × V), H d = some (.dT kvs) ∧ kvs.map (·.1) = es.map kk
  nd : es.Nodup
  lt : ∀ p, p ∈ es → p.1 < p.2 ∧ p.2 < m
  m7 : m ≤ 7
variable {H0 H H' : Hp} {q d : Addr} {m : Nat} {es : List (Nat × Nat)}
theorem pairs_few {es : List (Nat × Nat)} (nd : es.Nodup) (lt : ∀ p, p ∈ es → p.1 < p.2 ∧ p.2 < 7) : es.length ≤ 49 := by
  have h := nd_len nd (m := (List.range 7).flatMap fun a => (List.range 7).map fun b => (a, b)) fun c hc => by
    have ⟨h1, h2⟩ := lt c hc
    exact List.mem_flatMap.mpr ⟨c.1, List.mem_range.mpr (by omega), List.mem_map.mpr ⟨c.2, List.mem_range.mpr h2, rfl⟩⟩
  have e : ((List.range 7).flatMap fun a => (List.range 7).map fun b => (a, b)).length = 49 := by decide
  omega
theorem WW.few (w : WW H0 H q d m es) : es.length ≤ 49 := pairs_few w.nd fun p hp => by
  have := w.lt p hp
  have := w.m7
  omega
theorem WW.take (w : WW H0 H q d m es) (x y : Int) : WW H0 (upd H q (.lst [.int x, .int y])) q d m es := by
  obtain ⟨kvs, h1, h2⟩ := w.at_
  exact ⟨fun a o ha h => by rw [upd_ne ha]; exact w.ex a o ha h, w.nd0, w.dq, pool_set x y, ⟨kvs, by rw [upd_ne w.dq]; exact h1, h2⟩, w.nd, w.lt, w.m7⟩
theorem WW.up (w : WW H0 H q d m es) (x : Ex H H') : WW H0 H' q d m es := by
  obtain ⟨kvs, h1, h2⟩ := w.at_
  exact ⟨fun a o ha h => x _ _ (w.ex a o ha h), w.nd0, w.dq, w.pool.up x, ⟨kvs, x _ _ h1, h2⟩, w.nd, w.lt, w.m7⟩
theorem WW.wide {n : Nat} (w : WW H0 H q d m es) (h : m ≤ n) (h7 : n ≤ 7) : WW H0 H q d n es := ⟨w.ex, w.nd0, w.dq, w.pool, w.at_, w.nd, fun p hp => by
  have := w.lt p hp
  omega, h7⟩
section
variable {K : PySem.W.Frag} {σ : Sg} {ta tb te : TE} {D : Ends} {i : Nat} {Q : VK}
/-- ties[a, b] = True -/
theorem s_put {a b : Nat} (w : WW H0 H q d m es) (hv : σ[i]? = some (some (.ref d))) (h1 : Ax ta σ H (.int (a : Int))) (h2 : Ax tb σ H (.int (b : Int))) (hab : a < b) (hbm : b < m) (k : ∀ H', WW H0 H' q d m (ins es (a, b)) → D.nx σ H') :
    sDPut (tVar i) (tTup (tCons ta (tCons tb tNil))) (tC (.bl true)) D σ H := by
  refine ⟨.ref d, hv, ?_⟩
  refine h1 _ (h2 _ ⟨by show 2 ≤ sizeLine; decide, fun p hp => ?_⟩)
  obtain ⟨kvs, e1, e2⟩ := w.at_
  have few := w.few
  have hl : kvs.length = es.length := by
    have := congrArg List.length e2
    rw [List.length_map, List.length_map] at this
    exact this
  have hdp : d ≠ p := ne_of_none e1 hp
  have hqp : q ≠ p := fun z => w.pool.ne (by rw [z]; exact hp)
  refine ⟨d, _, rfl, DPut.t (k := kk (a, b)) (kvs := kvs) (by rw [upd_ne hdp]; exact e1) upd_same (smallt (by omega)), ?_⟩
  refine k _ ⟨fun c o hc h => ?_, w.nd0, w.dq, ?_, ⟨_, upd_same, put_keys e2⟩, ins_nd w.nd, fun r hr => ?_, w.m7⟩
  · have hcd : c ≠ d := fun z => by rw [z, w.nd0] at h; cases h
    rw [upd_ne hcd]
    exact Ex.new hp _ _ (w.ex c o hc h)
  · obtain ⟨x, y, z⟩ := w.pool.up (Ex.new hp (o := .tup [.int (a : Int), .int (b : Int)]))
    exact ⟨x, y, by rw [upd_ne (Ne.symm w.dq)]; exact z⟩
  · rcases mem_ins.mp hr with hr | rfl
    · exact w.lt r hr
    · exact ⟨hab, hbm⟩
/-- (a, b) in ties -/
theorem t_in {a b : Nat} {Q : Bool → Hp → Prop} (w : WW H0 H q d m es) (hv : σ[i]? = some (some (.ref d))) (h1 : Ax ta σ H (.int (a : Int))) (h2 : Ax tb σ H (.int (b : Int))) (k : ∀ H', WW H0 H' q d m es → Q (decide ((a, b) ∈ es)) H') :
    tB (tDIn (tTup (tCons ta (tCons tb tNil))) (tVar i)) σ H Q := by
  refine h1 _ (h2 _ ⟨by show 2 ≤ sizeLine; decide, fun p hp => ?_⟩)
  obtain ⟨kvs, e1, e2⟩ := w.at_
  have hdp : d ≠ p := ne_of_none e1 hp
  refine ⟨.ref d, hv, d, _, rfl, DGet.t (k := kk (a, b)) (kvs := kvs) (by rw [upd_ne hdp]; exact e1) upd_same, _, rfl, ?_⟩
  have : (valV kvs (kk (a, b))).isSome = decide ((a, b) ∈ es) := by
    rw [← valV_any, Bool.eq_iff_iff, decide_eq_true_iff, any_mem, e2]
    exact kk_mem
  rw [this]
  exact k _ (w.up (Ex.new hp))
theorem if_join {t : TT} {tu tw : TS} {P : Sg → Hp → Prop} (h : (∀ σ H, P σ H → D.nx σ H) → tIfS t tu tw D σ H) (k : ∀ σ H, P σ H → D.nx σ H) : tIfS t tu tw D σ H := h k
theorem forR1r {g : TG} {tu : TS} (h : te σ H fun v H1 => ∃ j : Int, [v] = [.int j] ∧ -(2 ^ 62) ≤ j ∧ j < 2 ^ 62 ∧ ForW (Itr 0 j.toNat) g tu D σ H1) : tFor (iRng1 (tCons te tNil)) g tu D σ H := h
theorem cb1 {r : List V → Hp → VK → Prop} (h : te σ H fun v H1 => r [v] H1 Q) : tCB r (tCons te tNil) σ H Q := h
theorem tt_ {Q : Bool → Hp → Prop} (h : te σ H fun x H1 => ∃ b, x = .bl b ∧ Q b H1) : tTest te σ H Q := h
theorem ax_andV {a b : Bool} (h : Ax ta σ H (.bl a)) (h2 : a = true → Ax tb σ H (.bl b)) : Ax (tAndV ta tb) σ H (.bl (a && b)) := fun Q q => h _ ⟨a, rfl, by
  cases a with
  | true => exact h2 rfl _ q
  | false => exact q⟩
theorem Ax.is {v w : V} (h : Ax te σ H v) (e : v = w) : Ax te σ H w := e ▸ h
end
noncomputable def keysB (H : Hp) (p : Addr) (bs : List Addr) : Hp := fun a => if a = p ∨ a ∈ bs then (upd H p (.lst (bs.map V.ref))) a else none
/-- the keys, as a list of pairs, told by a base of their own -/
theorem keys_base {K : PySem.W.Frag} {kvs : List (List Key × V)} {bs : List Addr} {p : Addr} (w : WW H0 H q d m es) (ek : kvs.map (·.1) = es.map kk) (hk : IsKeys H kvs bs) (hp : H p = none) :
    ∃ B, Ex B (upd H p (.lst (bs.map V.ref))) ∧ B q = none ∧ Dp K B (.ref p) (.list (es.map tieD)) := by
  have all : ∀ {kvs : List (List Key × V)} {bs : List Addr}, IsKeys H kvs bs → ∀ {es : List (Nat × Nat)}, kvs.map (·.1) = es.map kk → (∀ b, b ∈ bs → ∃ us, H b = some (.tup us)) ∧ ∀ B : Hp, (∀ b, b ∈ bs → B b = H b) → DpAll K B (bs.map V.ref) (es.map tieD) := by
    intro kvs bs h
    unfold IsKeys at h
    induction h with
    | nil =>
      intro es e
      cases es with
      | nil => exact ⟨fun b hb => (nomatch hb), fun B _ => .nil⟩
      | cons e1 e2 => cases e
    | @cons x b xs bs hx t ih =>
      intro es e
      cases es with
      | nil => cases e
      | cons e1 es =>
        have ⟨a1, a2⟩ := List.cons.inj e
        have ⟨i1, i2⟩ := ih a2
        refine ⟨fun c hc => ?_, fun B hB => ?_⟩
        · rcases List.mem_cons.mp hc with rfl | hc
          · exact ⟨_, hx⟩
          · exact i1 c hc
        · refine .cons ?_ (i2 B fun c hc => hB c (List.mem_cons_of_mem _ hc))
          have hb : B b = some (.tup [.int (e1.1 : Int), .int (e1.2 : Int)]) := by
            have a1' : x.1 = kk e1 := a1
            rw [hB b List.mem_cons_self, hx, a1']
            rfl
          exact .tup (.inl (.inl hb)) (.cons (.int _) (.cons (.int _) .nil))
  have ⟨h1, h2⟩ := all hk ek
  have e0 : ∀ a, keysB H p bs a = if a = p ∨ a ∈ bs then (upd H p (.lst (bs.map V.ref))) a else none := fun _ => rfl
  refine ⟨keysB H p bs, fun a o h => ?_, ?_, ?_⟩
  · rw [e0] at h
    by_cases q : a = p ∨ a ∈ bs
    · rw [if_pos q] at h; exact h
    · rw [if_neg q] at h; cases h
  · have hqp : q ≠ p := fun z => w.pool.ne (by rw [z]; exact hp)
    rw [e0, if_neg]
    rintro (z | z)
    · exact hqp z
    · obtain ⟨us, hu⟩ := h1 q z
      obtain ⟨x, y, hxy⟩ := w.pool
      rw [hxy] at hu
      cases hu
  · have hpp : keysB H p bs p = some (.lst (bs.map V.ref)) := by rw [e0, if_pos (.inl rfl), upd_same]
    refine .lst (.inl (.inl hpp)) (h2 _ fun b hb => ?_)
    have hbp : b ≠ p := fun z => by
      obtain ⟨us, hu⟩ := h1 b hb
      rw [z, hp] at hu
      cases hu
    rw [e0, if_pos (.inr hb), upd_ne hbp]
end Fx
set_option Elab.async false
set_option linter.all false
set_option maxRecDepth 100000
set_option autoImplicit false
namespace Fx
open PySem PySem.Spec PyProof.Rows L2
abbrev sWb : Stmt := topS 47
abbrev nWb : List Str := ["pool", "most", "many", "shape", "ties", "k", "ahead", "place", "one", "other"]
theorem scWb : FnScope nWb ["pool", "most"] (defScope sWb) := ⟨rfl, rfl, rfl, by decide +kernel, rfl, by decide +kernel, by decide +kernel⟩
def intR : List V → Hp → VK → Prop := fun xs H Q => (∃ i, xs = [.int i] ∧ Q (.int i) H) ∨ ∃ k, xs = [.bl k] ∧ Q (.int (if k then 1 else 0)) H
def listDR : List V → Hp → VK → Prop := fun xs H Q => ∃ d kvs, xs = [V.ref d] ∧ Rd H d (.dT kvs) ∧ ∀ p bs, H p = none → IsKeys H kvs bs → Q (.ref p) (upd H p (.lst (bs.map V.ref)))
section
variable {X : Cx} {e : Expr} {te : TE} {p pos : Pos}
theorem be_int (hm : X.mg "int" = none) (ha : PE X e te) (hg : Gl X "int" := by rfl) (hs : starEach [e] X.env = (false, eval e X.env) :: starEach [] X.env := by rfl) : PE X (.Call (.Name "int" p) [e] [] pos) (tCB intR (tCons te tNil)) :=
  pe_callTy call_int1 hg hm PyProof.Rows.boot_int (pa_cons ha pa_nil hs) (he := hs)
theorem be_listD (hm : X.mg "list" = none) (ha : PE X e te) (hc : X.calm = true := by rfl) (hg : Gl X "list" := by rfl) (hs : starEach [e] X.env = (false, eval e X.env) :: starEach [] X.env := by rfl) : PE X (.Call (.Name "list" p) [e] [] pos) (tCB listDR (tCons te tNil)) :=
  pe_callTy (call_list_dT hc) hg hm PyProof.Rows.boot_list (pa_cons ha pa_nil hs) (he := hs)
end
def Root (m : Nat) (es : List (Nat × Nat)) : Prop := ∀ j, 1 ≤ j → j < m → ∃ a, a < j ∧ (a, j) ∈ es
theorem Root.more {m : Nat} {es es2 : List (Nat × Nat)} (h : Root m es) (s : ∀ p, p ∈ es → p ∈ es2) : Root m es2 := fun j h1 h2 => by
  obtain ⟨a, h3, h4⟩ := h j h1 h2
  exact ⟨a, h3, s _ h4⟩
theorem Root.succ {k : Nat} {es : List (Nat × Nat)} (h : Root k es) {a : Nat} (ha : a < k) (hm : (a, k) ∈ es) : Root (k + 1) es := fun j h1 h2 => by
  by_cases q : j < k
  · exact h j h1 q
  · obtain rfl : j = k := by omega
    exact ⟨a, ha, hm⟩
theorem Root.near {k h : Nat} {es : List (Nat × Nat)} (r : Root k es) (h1 : 1 < k) (hh : h < k) : ∃ p, p < k ∧ (min p h, max p h) ∈ es := by
  by_cases h0 : h = 0
  · obtain ⟨a, ha, hm⟩ := r 1 (by omega) h1
    obtain rfl : a = 0 := by omega
    exact ⟨1, h1, by rw [h0]; exact hm⟩
  · obtain ⟨a, ha, hm⟩ := r h (by omega) hh
    exact ⟨a, by omega, by rw [Nat.min_eq_left (by omega), Nat.max_eq_right (by omega)]; exact hm⟩
section
variable {P : Program} {w : World} {K : PySem.W.Frag} {mg : Str → Option Value} {base : Heap}
theorem ok_wb {f : Addr} {fd : FuncData} (D : Df K mg "_law_web" sWb ["pool", "most"] f fd) (T : Bt mg) (G1 : Gd P w K mg base "_law_take" ["pool", "many"] 1 spTake) (G2 : Gd P w K mg base "_law_named" ["pool", "many", "ties"] 3 (spNm K)) : Gd P w K mg base "_law_web" ["pool", "most"] 4 (spWeb K) := by
  refine gd_of (N := nWb) D scWb (fun vs H Q E ⟨q, e, _⟩ => by rw [e]; rfl) fun cdv A outer s H vs Q E hr ⟨q, ev, hq, kk⟩ => ?_
  subst ev
  refine ⟨_, pss_cons (ps_set (i := 2) scWb.nd rfl (.inl rfl) (pe_op op_add pe_int (pe_fn G1 hr (pa_cons (pv 0) (pa_cons (pv 1) pa_nil)))))
    (pss_cons (ps_set (i := 3) scWb.nd rfl (.inl rfl) (pe_fn G1 hr (pa_cons (pv 0) (pa_cons pe_int pa_nil))))
    (pss_cons (ps_set (i := 4) scWb.nd rfl (.inl rfl) pe_dnewT)
    (pss_cons (ps_for PassesOwn.never rfl (pi_range2 rfl T.rng (pa_cons pe_int (pa_cons (pv 2) pa_nil))) (pg_name (i := 5) scWb.nd rfl (.inl rfl))
      (pss_cons (ps_set (i := 6) scWb.nd rfl (.inl rfl) (pe_fn G1 hr (pa_cons (pv 0) (pa_cons (pv 5) pa_nil))))
      (pss_cons (ps_if (pt_cmpR op_eq (pv 3) pe_int (nomark _)) (pss_one (ps_set (i := 6) scWb.nd rfl (.inl rfl) (pe_op op_sub (pv 5) pe_int))) pss_nil)
      (pss_cons (ps_if (PW.pt (pw_and (pt_cmpR op_eq (pv 3) pe_int (nomark _)) (pw_and1 (pt_cmpR op_gt (pv 5) pe_int (nomark _)))))
        (pss_one (ps_for PassesOwn.never rfl (pi_range1 rfl T.rng (pa_cons (pv 5) pa_nil)) (pg_name (i := 7) scWb.nd rfl (.inl rfl))
          (pss_one (ps_if (pt_cmp (pc_din (u1 hr) (pe_tup (pa_cons (be_min2 T.min (pv 7) (pv 6)) (pa_cons (be_max2 T.max (pv 7) (pv 6)) pa_nil))) (pv 4)) rfl) (pss_one (ps_dput (u1 hr) (pv 4) (pe_tup (pa_cons (pv 7) (pa_cons (pv 5) pa_nil))) pe_bl rfl)) pss_nil)))) pss_nil)
      (pss_cons (ps_if (pt_cmpR op_eq (pv 3) pe_int (nomark _)) (pss_one (ps_for PassesOwn.never rfl (pi_range1 rfl T.rng (pa_cons (pv 5) pa_nil)) (pg_name (i := 7) scWb.nd rfl (.inl rfl)) (pss_one (ps_dput (u1 hr) (pv 4) (pe_tup (pa_cons (pv 7) (pa_cons (pv 5) pa_nil))) pe_bl rfl)))) pss_nil)
      (pss_one (ps_if (PW.pt (pw_or (pt_cmpR op_lt (pv 3) pe_int (nomark _)) (pw_or (pt_cmpR op_eq (pv 5) pe_int (nomark _)) (pw_or1 (pt_cmpR op_eq (pe_fn G1 hr (pa_cons (pv 0) (pa_cons pe_int pa_nil))) pe_int (nomark _))))))
        (pss_one (ps_dput (u1 hr) (pv 4) (pe_tup (pa_cons (pv 6) (pa_cons (pv 5) pa_nil))) pe_bl rfl)) pss_nil)))))))
    (pss_cons (ps_if (PW.pt (pw_and (pt_cmpR op_eq (pv 3) pe_int (nomark _)) (pw_and (pt_cmpR op_gt (pv 2) pe_int (nomark _)) (pw_and1 (pt_cmpR op_gt (pe_fn G1 hr (pa_cons (pv 0) (pa_cons pe_int pa_nil))) pe_int (nomark _))))))
      (pss_one (ps_dput (u1 hr) (pv 4) (pe_tup (pa_cons pe_int (pa_cons (pe_op op_sub (pv 2) pe_int) pa_nil))) pe_bl rfl)) pss_nil)
    (pss_cons (ps_for PassesOwn.never rfl (pi_range1 rfl T.rng (pa_cons (pe_op op_mul (pe_fn G1 hr (pa_cons (pv 0) (pa_cons pe_int pa_nil))) (be_int T.int (pe_and (pe_cmpR op_eq (pv 3) pe_int (nomark _)) (pe_one (pe_cmpR op_gt (pv 2) pe_int (nomark _)))))) pa_nil)) (pg_name (i := 5) scWb.nd rfl (.inl rfl))
      (pss_cons (ps_set (i := 8) scWb.nd rfl (.inl rfl) (pe_fn G1 hr (pa_cons (pv 0) (pa_cons (pv 2) pa_nil))))
      (pss_cons (ps_set (i := 9) scWb.nd rfl (.inl rfl) (pe_op op_mod (pe_op op_add (pe_op op_add (pv 8) pe_int) (pe_fn G1 hr (pa_cons (pv 0) (pa_cons (pe_op op_sub (pv 2) pe_int) pa_nil)))) (pv 2)))
      (pss_one (ps_dput (u1 hr) (pv 4) (pe_tup (pa_cons (be_min2 T.min (pv 8) (pv 9)) (pa_cons (be_max2 T.max (pv 8) (pv 9)) pa_nil))) pe_bl rfl)))))
    (pss_one (ps_ret (pe_fn G2 hr (pa_cons (pv 0) (pa_cons (pv 2) (pa_cons (be_listD T.list (pv 4)) pa_nil))))))))))), ?_⟩
  have noB : ∀ H : Hp, Ex (fun _ => none) H := fun H a o h => nomatch h
  -- many
  refine sq (as_ (op_ ?_))
  refine take_ (q := q) (m := 7) (ax_var rfl) (ax_var rfl) hq (by omega) (by omega) fun r0 x0 y0 hr0 => ?_
  refine ⟨1, (r0 : Int), rfl, rfl, ?_⟩
  obtain ⟨n, hn⟩ : ∃ n : Nat, 1 + (r0 : Int) = (n : Int) := ⟨1 + r0, by omega⟩
  have n1 : 1 ≤ n := by omega
  have n7 : n ≤ 7 := by omega
  try dsimp only
  rw [hn]
  -- shape
  refine sq (as_ ?_)
  refine take_ (q := q) (m := 5) (ax_var rfl) ax_int (pool_set x0 y0) (by omega) (by omega) fun s x1 y1 hs5 => ?_
  try dsimp only
  -- ties = {}
  refine sq (as_ ?_)
  intro d hd0
  have hdq : d ≠ q := fun z => by rw [z, upd_same] at hd0; cases hd0
  have hdH : H d = none := by rw [upd_ne hdq, upd_ne hdq] at hd0; exact hd0
  have w0 : WW H (upd (upd (upd H q (.lst [.int x0, .int y0])) q (.lst [.int x1, .int y1])) d (.dT [])) q d 1 [] := by
    refine ⟨fun a o ha h => ?_, hdH, hdq, (pool_set x1 y1).up (Ex.new hd0), ⟨[], upd_same, rfl⟩, List.nodup_nil, fun p hp => (nomatch hp), by omega⟩
    refine Ex.new hd0 _ _ ?_
    rw [upd_ne ha, upd_ne ha]
    exact h
  generalize (upd (upd (upd H q (.lst [.int x0, .int y0])) q (.lst [.int x1, .int y1])) d (.dT [])) = H3 at w0
  try dsimp only
  refine sq (forR2_ (K := K) (B := fun _ => none) (m := 1) (n := n) (ea2 ev_int (ev_var rfl (.int _))) (noB _) (by omega) fun B4 H4 g4 => ?_)
  refine for_range (lo := ((1 : Nat) : Int)) (n := n - 1) (fun i σ H' => ∃ x5 x6 x7 es, σ = [some (.ref q), some (.int 7), some (.int (n : Int)), some (.int (s : Int)), some (.ref d), x5, x6, x7, none, none] ∧ WW H H' q d (i + 1) es ∧ Root (i + 1) es) ?_ ?_ ?_
  · exact ⟨none, none, none, [], rfl, w0.up g4.hh, fun j h1 h2 => by omega⟩
  · rintro i σ H5 hi ⟨x5, x6, x7, es, rfl, ww, rt⟩
    have ek : ((1 : Nat) : Int) + (i : Int) = ((i + 1 : Nat) : Int) := by omega
    rw [ek]
    have k1 : 1 ≤ i + 1 := by omega
    have kn : i + 1 < n := by omega
    clear hi ek
    generalize i + 1 = k at *
    -- ahead
    refine sq (as_ ?_)
    refine take_ (q := q) (m := k) (ax_var rfl) (ax_var rfl) ww.pool (by omega) (by omega) fun h0 x1 y1 hh0 => ?_
    have w1 := ww.take x1 y1
    generalize (upd H5 q (.lst [.int x1, .int y1])) = H6 at w1
    try dsimp only
    refine sq (if_join (P := fun σ H' => ∃ h, h < k ∧ σ = [some (.ref q), some (.int 7), some (.int (n : Int)), some (.int (s : Int)), some (.ref d), some (.int (k : Int)), some (.int (h : Int)), x7, none, none] ∧ WW H H' q d k es) (fun j => ?_) ?_)
    · refine sx_if (b := decide ((s : Int) = 2)) (at_test (ax_eqI (ax_var rfl) ax_int)) (fun hb => ?_) (fun hb => ?_)
      · refine sx_asg (ax_I0 (g := fun i j => .int (i - j)) (ax_var rfl) ax_int) ?_
        refine j _ _ ⟨k - 1, by omega, ?_, w1⟩
        rw [show ((k - 1 : Nat) : Int) = (k : Int) - 1 by omega]
        rfl
      · exact j _ _ ⟨h0, hh0, rfl, w1⟩
    rintro σ H7 ⟨h, hh, rfl, w2⟩
    try dsimp only
    refine sq (if_join (P := fun σ H' => ∃ x7 es2, σ = [some (.ref q), some (.int 7), some (.int (n : Int)), some (.int (s : Int)), some (.ref d), some (.int (k : Int)), some (.int (h : Int)), x7, none, none] ∧ WW H H' q d (k + 1) es2 ∧ (∀ p, p ∈ es → p ∈ es2) ∧ (s = 4 → 1 < k → ∃ a, a < k ∧ (a, k) ∈ es2)) (fun j => ?_) ?_)
    · have w3 := w2.wide (n := k + 1) (by omega) (by omega)
      refine sx_if (b := decide ((s : Int) = 4) && decide ((1 : Int) < (k : Int))) (at_and (at_test (ax_eqI (ax_var rfl) ax_int)) fun _ => at_test (ax_I0 (g := fun i j => .bl (decide (j < i))) (ax_var rfl) ax_int)) (fun hb => ?_) (fun hb => ?_)
      · refine forR1_ (K := K) (B := fun _ => none) (n := k) (ea1 (ev_var rfl (.int _))) (noB _) (by omega) fun B8 H8 g8 => ?_
        refine for_range (lo := 0) (n := k) (fun p σ H' => ∃ x7 es2, σ = [some (.ref q), some (.int 7), some (.int (n : Int)), some (.int (s : Int)), some (.ref d), some (.int (k : Int)), some (.int (h : Int)), x7, none, none] ∧ WW H H' q d (k + 1) es2 ∧ (∀ r, r ∈ es → r ∈ es2) ∧ ∀ a, a < p → (min a h, max a h) ∈ es → (a, k) ∈ es2) ?_ ?_ ?_
        · exact ⟨_, es, rfl, w3.up g8.hh, fun _ z => z, fun a ha => by omega⟩
        · rintro p σ H9 hp ⟨x7, es2, rfl, w9, sub, done⟩
          rw [Int.zero_add]
          refine if_ (t_in (a := min p h) (b := max p h) w9 rfl ((ax_min2 (ax_var rfl) (ax_var rfl)).is ?_) ((ax_max2 (ax_var rfl) (ax_var rfl)).is ?_) fun H10 w10 => ?_)
          · exact congrArg V.int (by omega : min (p : Int) (h : Int) = ((min p h : Nat) : Int))
          · exact congrArg V.int (by omega : max (p : Int) (h : Int) = ((max p h : Nat) : Int))
          · by_cases hm : (min p h, max p h) ∈ es2
            · rw [decide_eq_true hm]
              refine ifT (s_put (a := p) (b := k) w10 rfl (ax_var rfl) (ax_var rfl) hp (by omega) fun H11 w11 => ?_)
              refine ⟨_, _, rfl, w11, fun r hr => mem_ins.mpr (.inl (sub r hr)), fun a ha hm2 => ?_⟩
              by_cases hap : a = p
              · exact mem_ins.mpr (.inr (by rw [hap]))
              · exact mem_ins.mpr (.inl (done a (by omega) hm2))
            · rw [decide_eq_false hm]
              refine ifF ?_
              refine ⟨_, es2, rfl, w10, sub, fun a ha hm2 => ?_⟩
              by_cases hap : a = p
              · rw [hap] at hm2
                exact absurd (sub _ hm2) hm
              · exact done a (by omega) hm2
        · rintro σ H9 ⟨x7, es2, rfl, w9, sub, done⟩
          refine j _ _ ⟨x7, es2, rfl, w9, sub, fun _ h1k => ?_⟩
          obtain ⟨p, hp, hpm⟩ := rt.near h1k hh
          exact ⟨p, hp, done p hp hpm⟩
      · refine j _ _ ⟨x7, es, rfl, w3, fun _ z => z, fun h4 h1k => ?_⟩
        rw [decide_eq_true (by omega), decide_eq_true (by omega)] at hb
        cases hb
    rintro σ H8 ⟨x7, es3, rfl, w4, sub, f4⟩
    try dsimp only
    refine sq (if_join (P := fun σ H' => ∃ x7 es2, σ = [some (.ref q), some (.int 7), some (.int (n : Int)), some (.int (s : Int)), some (.ref d), some (.int (k : Int)), some (.int (h : Int)), x7, none, none] ∧ WW H H' q d (k + 1) es2 ∧ (∀ p, p ∈ es → p ∈ es2) ∧ (3 ≤ s → 1 < k → ∃ a, a < k ∧ (a, k) ∈ es2)) (fun j => ?_) ?_)
    · refine sx_if (b := decide ((s : Int) = 3)) (at_test (ax_eqI (ax_var rfl) ax_int)) (fun hb => ?_) (fun hb => ?_)
      · refine forR1_ (K := K) (B := fun _ => none) (n := k) (ea1 (ev_var rfl (.int _))) (noB _) (by omega) fun B9 H9 g9 => ?_
        refine for_range (lo := 0) (n := k) (fun p σ H' => ∃ x7 es2, σ = [some (.ref q), some (.int 7), some (.int (n : Int)), some (.int (s : Int)), some (.ref d), some (.int (k : Int)), some (.int (h : Int)), x7, none, none] ∧ WW H H' q d (k + 1) es2 ∧ (∀ r, r ∈ es → r ∈ es2) ∧ ∀ a, a < p → (a, k) ∈ es2) ?_ ?_ ?_
        · exact ⟨_, es3, rfl, w4.up g9.hh, sub, fun a ha => by omega⟩
        · rintro p σ H10 hp ⟨x7, es2, rfl, w10, sub2, done⟩
          rw [Int.zero_add]
          refine s_put (a := p) (b := k) w10 rfl (ax_var rfl) (ax_var rfl) hp (by omega) fun H11 w11 => ?_
          refine ⟨_, _, rfl, w11, fun r hr => mem_ins.mpr (.inl (sub2 r hr)), fun a ha => ?_⟩
          by_cases hap : a = p
          · exact mem_ins.mpr (.inr (by rw [hap]))
          · exact mem_ins.mpr (.inl (done a (by omega)))
        · rintro σ H10 ⟨x7, es2, rfl, w10, sub2, done⟩
          exact j _ _ ⟨x7, es2, rfl, w10, sub2, fun _ h1k => ⟨0, by omega, done 0 (by omega)⟩⟩
      · have hb := of_decide_eq_false hb
        exact j _ _ ⟨x7, es3, rfl, w4, sub, fun h3 h1k => f4 (by omega) h1k⟩
    rintro σ H9 ⟨x7, es4, rfl, w5, sub4, f3⟩
    try dsimp only
    have fin : ∀ H', WW H H' q d (k + 1) (ins es4 (h, k)) → ∃ x5 x6 x7' es, ([some (.ref q), some (.int 7), some (.int (n : Int)), some (.int (s : Int)), some (.ref d), some (.int (k : Int)), some (.int (h : Int)), x7, none, none] : Sg) = [some (.ref q), some (.int 7), some (.int (n : Int)), some (.int (s : Int)), some (.ref d), x5, x6, x7', none, none] ∧ WW H H' q d (k + 1) es ∧ Root (k + 1) es := fun H' w' =>
      ⟨_, _, _, _, rfl, w', Root.succ (rt.more fun p hp => mem_ins.mpr (.inl (sub4 p hp))) hh (mem_ins.mpr (.inr rfl))⟩
    refine if_ (or_ ?_)
    refine at_test (b := decide ((s : Int) < 3)) (ax_I0 (g := fun i j => .bl (decide (i < j))) (ax_var rfl) ax_int) _ ?_
    by_cases hs3 : (s : Int) < 3
    · rw [decide_eq_true hs3]
      exact ifT (ifT (s_put (a := h) (b := k) w5 rfl (ax_var rfl) (ax_var rfl) hh (by omega) fin))
    · rw [decide_eq_false hs3]
      refine ifF (or_ ?_)
      refine at_test (b := decide ((k : Int) = 1)) (ax_eqI (ax_var rfl) ax_int) _ ?_
      by_cases hk1 : (k : Int) = 1
      · rw [decide_eq_true hk1]
        exact ifT (ifT (s_put (a := h) (b := k) w5 rfl (ax_var rfl) (ax_var rfl) hh (by omega) fin))
      · rw [decide_eq_false hk1]
        refine ifF (tt_ (op_ ?_))
        refine take_ (q := q) (m := 2) (ax_var rfl) ax_int w5.pool (by omega) (by omega) fun r x2 y2 hr2 => ?_
        have w6 := w5.take x2 y2
        refine ⟨rfl, _, rfl, ?_⟩
        refine ite2 (fun _ => ?_) (fun _ => ?_)
        · exact s_put (a := h) (b := k) w6 rfl (ax_var rfl) (ax_var rfl) hh (by omega) fin
        · obtain ⟨a, ha, hm⟩ := f3 (by omega) (by omega)
          exact ⟨_, _, _, es4, rfl, w6, (rt.more sub4).succ ha hm⟩
  · rintro σ H5 ⟨x5, x6, x7, es, rfl, ww, rt⟩
    rw [show n - 1 + 1 = n by omega] at ww rt
    try dsimp only
    refine sq (if_join (P := fun σ H' => ∃ es2, σ = [some (.ref q), some (.int 7), some (.int (n : Int)), some (.int (s : Int)), some (.ref d), x5, x6, x7, none, none] ∧ WW H H' q d n es2 ∧ Root n es2) (fun j => ?_) ?_)
    · refine if_ (and_ ?_)
      refine at_test (b := decide ((s : Int) = 2)) (ax_eqI (ax_var rfl) ax_int) _ ?_
      by_cases hs2 : (s : Int) = 2
      · rw [decide_eq_true hs2]
        refine ifT (and_ ?_)
        refine at_test (b := decide ((2 : Int) < (n : Int))) (ax_I0 (g := fun i j => .bl (decide (j < i))) (ax_var rfl) ax_int) _ ?_
        by_cases hn2 : (2 : Int) < (n : Int)
        · rw [decide_eq_true hn2]
          refine ifT (tt_ (op_ ?_))
          refine take_ (q := q) (m := 3) (ax_var rfl) ax_int ww.pool (by omega) (by omega) fun r x2 y2 hr2 => ?_
          have w6 := ww.take x2 y2
          refine ⟨_, _, rfl, rfl, _, rfl, ?_⟩
          refine ite2 (fun _ => ?_) (fun _ => ?_)
          · refine s_put (a := 0) (b := n - 1) w6 rfl ax_int ((ax_I0 (g := fun i j => .int (i - j)) (ax_var rfl) ax_int).is (congrArg V.int (show (n : Int) - 1 = ((n - 1 : Nat) : Int) by omega))) (by omega) (by omega) fun H6 w7 => ?_
            exact j _ _ ⟨_, rfl, w7, rt.more fun p hp => mem_ins.mpr (.inl hp)⟩
          · exact j _ _ ⟨es, rfl, w6, rt⟩
        · rw [decide_eq_false hn2]
          exact ifF (ifF (j _ _ ⟨es, rfl, ww, rt⟩))
      · rw [decide_eq_false hs2]
        exact ifF (ifF (j _ _ ⟨es, rfl, ww, rt⟩))
    rintro σ H6 ⟨es2, rfl, w6, rt6⟩
    try dsimp only
    refine sq (forR1r (op_ ?_))
    refine take_ (q := q) (m := 7) (ax_var rfl) ax_int w6.pool (by omega) (by omega) fun c x2 y2 hc => ?_
    have w7 := w6.take x2 y2
    generalize (upd H6 q (.lst [.int x2, .int y2])) = H7 at w7
    refine cb1 (ax_andV (a := decide ((s : Int) = 1)) (b := decide ((1 : Int) < (n : Int))) (ax_eqI (ax_var rfl) ax_int) (fun _ => ax_I0 (g := fun i j => .bl (decide (j < i))) (ax_var rfl) ax_int) _ ?_)
    refine .inr ⟨_, rfl, _, _, rfl, rfl, .inl ⟨by omega, by omega⟩, ?_⟩
    obtain ⟨cnt, hcnt, hc6, hc1⟩ : ∃ cnt : Nat, (c : Int) * (if (decide ((s : Int) = 1) && decide ((1 : Int) < (n : Int))) = true then 1 else 0) = (cnt : Int) ∧ cnt ≤ 7 ∧ (0 < cnt → 1 < n) := by
      by_cases hb : (decide ((s : Int) = 1) && decide ((1 : Int) < (n : Int))) = true
      · rw [if_pos hb]
        rw [Bool.and_eq_true, decide_eq_true_iff, decide_eq_true_iff] at hb
        exact ⟨c, by omega, by omega, fun _ => by omega⟩
      · rw [if_neg hb]
        exact ⟨0, by omega, by omega, fun h => by omega⟩
    refine ⟨(cnt : Int), by rw [← hcnt], by omega, by omega, ?_⟩
    rw [show ((cnt : Int)).toNat = cnt by omega]
    refine for_range (lo := 0) (n := cnt) (fun i σ H' => ∃ x5 x8 x9 es, σ = [some (.ref q), some (.int 7), some (.int (n : Int)), some (.int (s : Int)), some (.ref d), x5, x6, x7, x8, x9] ∧ WW H H' q d n es ∧ Root n es) ?_ ?_ ?_
    · exact ⟨_, _, _, es2, rfl, w7, rt6⟩
    · rintro i σ H8 hi ⟨x5, x8, x9, es3, rfl, w8, rt8⟩
      have n2 : 1 < n := hc1 (by omega)
      refine sq (as_ ?_)
      refine take_ (q := q) (m := n) (ax_var rfl) (ax_var rfl) w8.pool (by omega) (by omega) fun a x3 y3 ha => ?_
      have w9 := w8.take x3 y3
      generalize (upd H8 q (.lst [.int x3, .int y3])) = H9 at w9
      try dsimp only
      refine sq (as_ (op_ (op_ ?_)))
      refine ax_I0 (g := fun i j => .int (i + j)) (ax_var rfl) ax_int _ ?_
      refine take_ (q := q) (m := n - 1) (ax_var rfl) ((ax_I0 (g := fun i j => .int (i - j)) (ax_var rfl) ax_int).is (congrArg V.int (show (n : Int) - 1 = ((n - 1 : Nat) : Int) by omega))) w9.pool (by omega) (by omega) fun b x4 y4 hb => ?_
      have w10 := w9.take x4 y4
      generalize (upd H9 q (.lst [.int x4, .int y4])) = H10 at w10
      refine ⟨_, _, rfl, rfl, _, rfl, _, _, rfl, rfl, show (0 : Int) < (n : Int) by omega, ?_⟩
      obtain ⟨o, ho, hon, hoa⟩ : ∃ o : Nat, ((a : Int) + 1 + (b : Int)) % (n : Int) = (o : Int) ∧ o < n ∧ o ≠ a := by
        by_cases hlt : a + 1 + b < n
        · exact ⟨a + 1 + b, by rw [Int.emod_eq_of_lt (by omega) (by omega)]; omega, hlt, by omega⟩
        · refine ⟨a + 1 + b - n, ?_, by omega, by omega⟩
          rw [show (a : Int) + 1 + (b : Int) = ((a + 1 + b - n : Nat) : Int) + (n : Int) by omega, Int.add_emod_right, Int.emod_eq_of_lt (by omega) (by omega)]
      try dsimp only
      rw [ho]
      refine s_put (a := min a o) (b := max a o) w10 rfl ((ax_min2 (ax_var rfl) (ax_var rfl)).is ?_) ((ax_max2 (ax_var rfl) (ax_var rfl)).is ?_) (by omega) (by omega) fun H11 w11 => ?_
      · exact congrArg V.int (by omega : min (a : Int) (o : Int) = ((min a o : Nat) : Int))
      · exact congrArg V.int (by omega : max (a : Int) (o : Int) = ((max a o : Nat) : Int))
      · exact ⟨_, _, _, _, rfl, w11, rt8.more fun p hp => mem_ins.mpr (.inl hp)⟩
    · rintro σ H8 ⟨x5, x8, x9, es3, rfl, w8, rt8⟩
      try dsimp only
      refine rt_ (call_ ?_)
      refine ⟨_, rfl, _, rfl, _, rfl, ?_⟩
      obtain ⟨kvs, e1, e2⟩ := w8.at_
      refine ⟨d, kvs, rfl, .inl e1, fun p bs hp hk => ?_⟩
      obtain ⟨B, xB, hqB, hDp⟩ := keys_base (K := K) w8 e2 hk hp
      have few := w8.few
      exact ⟨B, q, n, .ref p, es3, rfl, xB, hqB, w8.pool.up (Ex.new hp), n1, n7, ⟨w8.nd, w8.lt, rt8⟩, by omega, hDp, fun v W B' H' ok y1 y2 y3 y4 y5 => kk v W B' H' ok y1 y2 (fun a o ha h => y3 a o ha (Ex.new hp _ _ (w8.ex a o ha h))) y4 y5⟩
end
end Fx
set_option Elab.async false
set_option linter.all false
set_option maxRecDepth 100000
set_option autoImplicit false
namespace Fx
open PySem PySem.Spec PyProof.Rows L2
/-! ### the defs as the top has written them -/
def Dx (K : PySem.W.Frag) (mg : Str → Option Value) (x : Str) (st : Stmt) (ps : List Str) : Prop := ∃ f fd, Df K mg x st ps f fd
section
variable {K : PySem.W.Frag} {h : Heap} {mg : Str → Option Value} {f : Addr} {od an : Option Addr} {sl : Array (Option Value)} {oc kV dc pm cd ct : Value}
theorem dx_near_lists (X : K.In h) (G : h.Ns mainGlobals mg) (a : PySem.W.nsIn K mainGlobals "near_lists" = some (some (.ref f))) (l : K.lookup f = some ⟨oc, od, .func (PySem.W.fnOf "near_lists" "near_lists" (defArgs sNear) (defBody sNear) (defScope sNear) .none kV dc pm an cd ct), sl⟩) (c : PySem.W.codeIn K cd "near_lists" = true) (k : PySem.W.keepIn K (.ref f) = true) : Dx K mg "near_lists" sNear ["web"] :=
  have F := fun_mk (st := sNear) l c k
  ⟨f, _, F, F.binds (ps := ["web"]) fun _ _ _ _ _ _ us hl => match us, hl with | [_], _ => rfl, PySem.W.mg_of X G a⟩
theorem dx_fars_by (X : K.In h) (G : h.Ns mainGlobals mg) (a : PySem.W.nsIn K mainGlobals "fars_by" = some (some (.ref f))) (l : K.lookup f = some ⟨oc, od, .func (PySem.W.fnOf "fars_by" "fars_by" (defArgs sFars) (defBody sFars) (defScope sFars) .none kV dc pm an cd ct), sl⟩) (c : PySem.W.codeIn K cd "fars_by" = true) (k : PySem.W.keepIn K (.ref f) = true) : Dx K mg "fars_by" sFars ["near", "place"] :=
  have F := fun_mk (st := sFars) l c k
  ⟨f, _, F, F.binds (ps := ["near", "place"]) fun _ _ _ _ _ _ us hl => match us, hl with | [_, _], _ => rfl, PySem.W.mg_of X G a⟩
theorem dx_place_asked (X : K.In h) (G : h.Ns mainGlobals mg) (a : PySem.W.nsIn K mainGlobals "place_asked" = some (some (.ref f))) (l : K.lookup f = some ⟨oc, od, .func (PySem.W.fnOf "place_asked" "place_asked" (defArgs sPl) (defBody sPl) (defScope sPl) .none kV dc pm an cd ct), sl⟩) (c : PySem.W.codeIn K cd "place_asked" = true) (k : PySem.W.keepIn K (.ref f) = true) : Dx K mg "place_asked" sPl ["web", "place"] :=
  have F := fun_mk (st := sPl) l c k
  ⟨f, _, F, F.binds (ps := ["web", "place"]) fun _ _ _ _ _ _ us hl => match us, hl with | [_, _], _ => rfl, PySem.W.mg_of X G a⟩
theorem dx_neighbours_of (X : K.In h) (G : h.Ns mainGlobals mg) (a : PySem.W.nsIn K mainGlobals "neighbours_of" = some (some (.ref f))) (l : K.lookup f = some ⟨oc, od, .func (PySem.W.fnOf "neighbours_of" "neighbours_of" (defArgs sNb) (defBody sNb) (defScope sNb) .none kV dc pm an cd ct), sl⟩) (c : PySem.W.codeIn K cd "neighbours_of" = true) (k : PySem.W.keepIn K (.ref f) = true) : Dx K mg "neighbours_of" sNb ["web", "place"] :=
  have F := fun_mk (st := sNb) l c k
  ⟨f, _, F, F.binds (ps := ["web", "place"]) fun _ _ _ _ _ _ us hl => match us, hl with | [_, _], _ => rfl, PySem.W.mg_of X G a⟩
theorem dx_fars_from (X : K.In h) (G : h.Ns mainGlobals mg) (a : PySem.W.nsIn K mainGlobals "fars_from" = some (some (.ref f))) (l : K.lookup f = some ⟨oc, od, .func (PySem.W.fnOf "fars_from" "fars_from" (defArgs sFf) (defBody sFf) (defScope sFf) .none kV dc pm an cd ct), sl⟩) (c : PySem.W.codeIn K cd "fars_from" = true) (k : PySem.W.keepIn K (.ref f) = true) : Dx K mg "fars_from" sFf ["web", "place"] :=
  have F := fun_mk (st := sFf) l c k
  ⟨f, _, F, F.binds (ps := ["web", "place"]) fun _ _ _ _ _ _ us hl => match us, hl with | [_, _], _ => rfl, PySem.W.mg_of X G a⟩
theorem dx_table_of (X : K.In h) (G : h.Ns mainGlobals mg) (a : PySem.W.nsIn K mainGlobals "table_of" = some (some (.ref f))) (l : K.lookup f = some ⟨oc, od, .func (PySem.W.fnOf "table_of" "table_of" (defArgs sTab) (defBody sTab) (defScope sTab) .none kV dc pm an cd ct), sl⟩) (c : PySem.W.codeIn K cd "table_of" = true) (k : PySem.W.keepIn K (.ref f) = true) : Dx K mg "table_of" sTab ["web"] :=
  have F := fun_mk (st := sTab) l c k
  ⟨f, _, F, F.binds (ps := ["web"]) fun _ _ _ _ _ _ us hl => match us, hl with | [_], _ => rfl, PySem.W.mg_of X G a⟩
theorem dx_things_of (X : K.In h) (G : h.Ns mainGlobals mg) (a : PySem.W.nsIn K mainGlobals "things_of" = some (some (.ref f))) (l : K.lookup f = some ⟨oc, od, .func (PySem.W.fnOf "things_of" "things_of" (defArgs sThs) (defBody sThs) (defScope sThs) .none kV dc pm an cd ct), sl⟩) (c : PySem.W.codeIn K cd "things_of" = true) (k : PySem.W.keepIn K (.ref f) = true) : Dx K mg "things_of" sThs ["web", "kind"] :=
  have F := fun_mk (st := sThs) l c k
  ⟨f, _, F, F.binds (ps := ["web", "kind"]) fun _ _ _ _ _ _ us hl => match us, hl with | [_, _], _ => rfl, PySem.W.mg_of X G a⟩
theorem dx_looks_asked (X : K.In h) (G : h.Ns mainGlobals mg) (a : PySem.W.nsIn K mainGlobals "looks_asked" = some (some (.ref f))) (l : K.lookup f = some ⟨oc, od, .func (PySem.W.fnOf "looks_asked" "looks_asked" (defArgs sLa) (defBody sLa) (defScope sLa) .none kV dc pm an cd ct), sl⟩) (c : PySem.W.codeIn K cd "looks_asked" = true) (k : PySem.W.keepIn K (.ref f) = true) : Dx K mg "looks_asked" sLa ["web", "looks"] :=
  have F := fun_mk (st := sLa) l c k
  ⟨f, _, F, F.binds (ps := ["web", "looks"]) fun _ _ _ _ _ _ us hl => match us, hl with | [_, _], _ => rfl, PySem.W.mg_of X G a⟩
theorem dx_thing_asked (X : K.In h) (G : h.Ns mainGlobals mg) (a : PySem.W.nsIn K mainGlobals "thing_asked" = some (some (.ref f))) (l : K.lookup f = some ⟨oc, od, .func (PySem.W.fnOf "thing_asked" "thing_asked" (defArgs sTa) (defBody sTa) (defScope sTa) .none kV dc pm an cd ct), sl⟩) (c : PySem.W.codeIn K cd "thing_asked" = true) (k : PySem.W.keepIn K (.ref f) = true) : Dx K mg "thing_asked" sTa ["web", "thing"] :=
  have F := fun_mk (st := sTa) l c k
  ⟨f, _, F, F.binds (ps := ["web", "thing"]) fun _ _ _ _ _ _ us hl => match us, hl with | [_, _], _ => rfl, PySem.W.mg_of X G a⟩
theorem dx_far_by (X : K.In h) (G : h.Ns mainGlobals mg) (a : PySem.W.nsIn K mainGlobals "far_by" = some (some (.ref f))) (l : K.lookup f = some ⟨oc, od, .func (PySem.W.fnOf "far_by" "far_by" (defArgs sFb) (defBody sFb) (defScope sFb) .none kV dc pm an cd ct), sl⟩) (c : PySem.W.codeIn K cd "far_by" = true) (k : PySem.W.keepIn K (.ref f) = true) : Dx K mg "far_by" sFb ["table", "look", "thing"] :=
  have F := fun_mk (st := sFb) l c k
  ⟨f, _, F, F.binds (ps := ["table", "look", "thing"]) fun _ _ _ _ _ _ us hl => match us, hl with | [_, _, _], _ => rfl, PySem.W.mg_of X G a⟩
theorem dx_parters_by (X : K.In h) (G : h.Ns mainGlobals mg) (a : PySem.W.nsIn K mainGlobals "parters_by" = some (some (.ref f))) (l : K.lookup f = some ⟨oc, od, .func (PySem.W.fnOf "parters_by" "parters_by" (defArgs sPb) (defBody sPb) (defScope sPb) .none kV dc pm an cd ct), sl⟩) (c : PySem.W.codeIn K cd "parters_by" = true) (k : PySem.W.keepIn K (.ref f) = true) : Dx K mg "parters_by" sPb ["table", "one", "other"] :=
  have F := fun_mk (st := sPb) l c k
  ⟨f, _, F, F.binds (ps := ["table", "one", "other"]) fun _ _ _ _ _ _ us hl => match us, hl with | [_, _, _], _ => rfl, PySem.W.mg_of X G a⟩
theorem dx_parters_of (X : K.In h) (G : h.Ns mainGlobals mg) (a : PySem.W.nsIn K mainGlobals "parters_of" = some (some (.ref f))) (l : K.lookup f = some ⟨oc, od, .func (PySem.W.fnOf "parters_of" "parters_of" (defArgs sPo) (defBody sPo) (defScope sPo) .none kV dc pm an cd ct), sl⟩) (c : PySem.W.codeIn K cd "parters_of" = true) (k : PySem.W.keepIn K (.ref f) = true) : Dx K mg "parters_of" sPo ["web", "one", "other"] :=
  have F := fun_mk (st := sPo) l c k
  ⟨f, _, F, F.binds (ps := ["web", "one", "other"]) fun _ _ _ _ _ _ us hl => match us, hl with | [_, _, _], _ => rfl, PySem.W.mg_of X G a⟩
theorem dx_by_code (X : K.In h) (G : h.Ns mainGlobals mg) (a : PySem.W.nsIn K mainGlobals "by_code" = some (some (.ref f))) (l : K.lookup f = some ⟨oc, od, .func (PySem.W.fnOf "by_code" "by_code" (defArgs sBc) (defBody sBc) (defScope sBc) .none kV dc pm an cd ct), sl⟩) (c : PySem.W.codeIn K cd "by_code" = true) (k : PySem.W.keepIn K (.ref f) = true) : Dx K mg "by_code" sBc ["web", "looks", "kind"] :=
  have F := fun_mk (st := sBc) l c k
  ⟨f, _, F, F.binds (ps := ["web", "looks", "kind"]) fun _ _ _ _ _ _ us hl => match us, hl with | [_, _, _], _ => rfl, PySem.W.mg_of X G a⟩
theorem dx_likes_by (X : K.In h) (G : h.Ns mainGlobals mg) (a : PySem.W.nsIn K mainGlobals "likes_by" = some (some (.ref f))) (l : K.lookup f = some ⟨oc, od, .func (PySem.W.fnOf "likes_by" "likes_by" (defArgs sLb) (defBody sLb) (defScope sLb) .none kV dc pm an cd ct), sl⟩) (c : PySem.W.codeIn K cd "likes_by" = true) (k : PySem.W.keepIn K (.ref f) = true) : Dx K mg "likes_by" sLb ["web", "looks", "kind"] :=
  have F := fun_mk (st := sLb) l c k
  ⟨f, _, F, F.binds (ps := ["web", "looks", "kind"]) fun _ _ _ _ _ _ us hl => match us, hl with | [_, _, _], _ => rfl, PySem.W.mg_of X G a⟩
theorem dx_is_known (X : K.In h) (G : h.Ns mainGlobals mg) (a : PySem.W.nsIn K mainGlobals "is_known" = some (some (.ref f))) (l : K.lookup f = some ⟨oc, od, .func (PySem.W.fnOf "is_known" "is_known" (defArgs sIk) (defBody sIk) (defScope sIk) .none kV dc pm an cd ct), sl⟩) (c : PySem.W.codeIn K cd "is_known" = true) (k : PySem.W.keepIn K (.ref f) = true) : Dx K mg "is_known" sIk ["web", "looks", "kind"] :=
  have F := fun_mk (st := sIk) l c k
  ⟨f, _, F, F.binds (ps := ["web", "looks", "kind"]) fun _ _ _ _ _ _ us hl => match us, hl with | [_, _, _], _ => rfl, PySem.W.mg_of X G a⟩
theorem dx_rising_looks (X : K.In h) (G : h.Ns mainGlobals mg) (a : PySem.W.nsIn K mainGlobals "rising_looks" = some (some (.ref f))) (l : K.lookup f = some ⟨oc, od, .func (PySem.W.fnOf "rising_looks" "rising_looks" (defArgs sRl) (defBody sRl) (defScope sRl) .none kV dc pm an cd ct), sl⟩) (c : PySem.W.codeIn K cd "rising_looks" = true) (k : PySem.W.keepIn K (.ref f) = true) : Dx K mg "rising_looks" sRl ["web", "looks"] :=
  have F := fun_mk (st := sRl) l c k
  ⟨f, _, F, F.binds (ps := ["web", "looks"]) fun _ _ _ _ _ _ us hl => match us, hl with | [_, _], _ => rfl, PySem.W.mg_of X G a⟩
theorem dx_code_by (X : K.In h) (G : h.Ns mainGlobals mg) (a : PySem.W.nsIn K mainGlobals "code_by" = some (some (.ref f))) (l : K.lookup f = some ⟨oc, od, .func (PySem.W.fnOf "code_by" "code_by" (defArgs sCb) (defBody sCb) (defScope sCb) .none kV dc pm an cd ct), sl⟩) (c : PySem.W.codeIn K cd "code_by" = true) (k : PySem.W.keepIn K (.ref f) = true) : Dx K mg "code_by" sCb ["rows", "thing"] :=
  have F := fun_mk (st := sCb) l c k
  ⟨f, _, F, F.binds (ps := ["rows", "thing"]) fun _ _ _ _ _ _ us hl => match us, hl with | [_, _], _ => rfl, PySem.W.mg_of X G a⟩
theorem dx_codes_by (X : K.In h) (G : h.Ns mainGlobals mg) (a : PySem.W.nsIn K mainGlobals "codes_by" = some (some (.ref f))) (l : K.lookup f = some ⟨oc, od, .func (PySem.W.fnOf "codes_by" "codes_by" (defArgs sCs) (defBody sCs) (defScope sCs) .none kV dc pm an cd ct), sl⟩) (c : PySem.W.codeIn K cd "codes_by" = true) (k : PySem.W.keepIn K (.ref f) = true) : Dx K mg "codes_by" sCs ["web", "looks", "kind"] :=
  have F := fun_mk (st := sCs) l c k
  ⟨f, _, F, F.binds (ps := ["web", "looks", "kind"]) fun _ _ _ _ _ _ us hl => match us, hl with | [_, _, _], _ => rfl, PySem.W.mg_of X G a⟩
theorem dx_unlike_at (X : K.In h) (G : h.Ns mainGlobals mg) (a : PySem.W.nsIn K mainGlobals "unlike_at" = some (some (.ref f))) (l : K.lookup f = some ⟨oc, od, .func (PySem.W.fnOf "unlike_at" "unlike_at" (defArgs sUa) (defBody sUa) (defScope sUa) .none kV dc pm an cd ct), sl⟩) (c : PySem.W.codeIn K cd "unlike_at" = true) (k : PySem.W.keepIn K (.ref f) = true) : Dx K mg "unlike_at" sUa ["code", "other"] :=
  have F := fun_mk (st := sUa) l c k
  ⟨f, _, F, F.binds (ps := ["code", "other"]) fun _ _ _ _ _ _ us hl => match us, hl with | [_, _], _ => rfl, PySem.W.mg_of X G a⟩
theorem dx_strength_of (X : K.In h) (G : h.Ns mainGlobals mg) (a : PySem.W.nsIn K mainGlobals "strength_of" = some (some (.ref f))) (l : K.lookup f = some ⟨oc, od, .func (PySem.W.fnOf "strength_of" "strength_of" (defArgs sSo) (defBody sSo) (defScope sSo) .none kV dc pm an cd ct), sl⟩) (c : PySem.W.codeIn K cd "strength_of" = true) (k : PySem.W.keepIn K (.ref f) = true) : Dx K mg "strength_of" sSo ["web", "looks", "kind"] :=
  have F := fun_mk (st := sSo) l c k
  ⟨f, _, F, F.binds (ps := ["web", "looks", "kind"]) fun _ _ _ _ _ _ us hl => match us, hl with | [_, _, _], _ => rfl, PySem.W.mg_of X G a⟩
theorem dx_most_strength (X : K.In h) (G : h.Ns mainGlobals mg) (a : PySem.W.nsIn K mainGlobals "most_strength" = some (some (.ref f))) (l : K.lookup f = some ⟨oc, od, .func (PySem.W.fnOf "most_strength" "most_strength" (defArgs sMs) (defBody sMs) (defScope sMs) .none kV dc pm an cd ct), sl⟩) (c : PySem.W.codeIn K cd "most_strength" = true) (k : PySem.W.keepIn K (.ref f) = true) : Dx K mg "most_strength" sMs ["web", "kind"] :=
  have F := fun_mk (st := sMs) l c k
  ⟨f, _, F, F.binds (ps := ["web", "kind"]) fun _ _ _ _ _ _ us hl => match us, hl with | [_, _], _ => rfl, PySem.W.mg_of X G a⟩
theorem dx_fitting_things (X : K.In h) (G : h.Ns mainGlobals mg) (a : PySem.W.nsIn K mainGlobals "fitting_things" = some (some (.ref f))) (l : K.lookup f = some ⟨oc, od, .func (PySem.W.fnOf "fitting_things" "fitting_things" (defArgs sFt) (defBody sFt) (defScope sFt) .none kV dc pm an cd ct), sl⟩) (c : PySem.W.codeIn K cd "fitting_things" = true) (k : PySem.W.keepIn K (.ref f) = true) : Dx K mg "fitting_things" sFt ["web", "looks", "kind", "heard", "lies"] :=
  have F := fun_mk (st := sFt) l c k
  ⟨f, _, F, F.binds (ps := ["web", "looks", "kind", "heard", "lies"]) fun _ _ _ _ _ _ us hl => match us, hl with | [_, _, _, _, _], _ => rfl, PySem.W.mg_of X G a⟩
theorem dx_is_tree (X : K.In h) (G : h.Ns mainGlobals mg) (a : PySem.W.nsIn K mainGlobals "is_tree" = some (some (.ref f))) (l : K.lookup f = some ⟨oc, od, .func (PySem.W.fnOf "is_tree" "is_tree" (defArgs sIt) (defBody sIt) (defScope sIt) .none kV dc pm an cd ct), sl⟩) (c : PySem.W.codeIn K cd "is_tree" = true) (k : PySem.W.keepIn K (.ref f) = true) : Dx K mg "is_tree" sIt ["web"] :=
  have F := fun_mk (st := sIt) l c k
  ⟨f, _, F, F.binds (ps := ["web"]) fun _ _ _ _ _ _ us hl => match us, hl with | [_], _ => rfl, PySem.W.mg_of X G a⟩
theorem dx_tree_asked (X : K.In h) (G : h.Ns mainGlobals mg) (a : PySem.W.nsIn K mainGlobals "tree_asked" = some (some (.ref f))) (l : K.lookup f = some ⟨oc, od, .func (PySem.W.fnOf "tree_asked" "tree_asked" (defArgs sTk) (defBody sTk) (defScope sTk) .none kV dc pm an cd ct), sl⟩) (c : PySem.W.codeIn K cd "tree_asked" = true) (k : PySem.W.keepIn K (.ref f) = true) : Dx K mg "tree_asked" sTk ["web"] :=
  have F := fun_mk (st := sTk) l c k
  ⟨f, _, F, F.binds (ps := ["web"]) fun _ _ _ _ _ _ us hl => match us, hl with | [_], _ => rfl, PySem.W.mg_of X G a⟩
theorem dx_rising_asked (X : K.In h) (G : h.Ns mainGlobals mg) (a : PySem.W.nsIn K mainGlobals "rising_asked" = some (some (.ref f))) (l : K.lookup f = some ⟨oc, od, .func (PySem.W.fnOf "rising_asked" "rising_asked" (defArgs sRa) (defBody sRa) (defScope sRa) .none kV dc pm an cd ct), sl⟩) (c : PySem.W.codeIn K cd "rising_asked" = true) (k : PySem.W.keepIn K (.ref f) = true) : Dx K mg "rising_asked" sRa ["web", "looks"] :=
  have F := fun_mk (st := sRa) l c k
  ⟨f, _, F, F.binds (ps := ["web", "looks"]) fun _ _ _ _ _ _ us hl => match us, hl with | [_, _], _ => rfl, PySem.W.mg_of X G a⟩
theorem dx_all_near (X : K.In h) (G : h.Ns mainGlobals mg) (a : PySem.W.nsIn K mainGlobals "all_near" = some (some (.ref f))) (l : K.lookup f = some ⟨oc, od, .func (PySem.W.fnOf "all_near" "all_near" (defArgs sAn) (defBody sAn) (defScope sAn) .none kV dc pm an cd ct), sl⟩) (c : PySem.W.codeIn K cd "all_near" = true) (k : PySem.W.keepIn K (.ref f) = true) : Dx K mg "all_near" sAn ["web"] :=
  have F := fun_mk (st := sAn) l c k
  ⟨f, _, F, F.binds (ps := ["web"]) fun _ _ _ _ _ _ us hl => match us, hl with | [_], _ => rfl, PySem.W.mg_of X G a⟩
theorem dx_piece_from (X : K.In h) (G : h.Ns mainGlobals mg) (a : PySem.W.nsIn K mainGlobals "piece_from" = some (some (.ref f))) (l : K.lookup f = some ⟨oc, od, .func (PySem.W.fnOf "piece_from" "piece_from" (defArgs sPf) (defBody sPf) (defScope sPf) .none kV dc pm an cd ct), sl⟩) (c : PySem.W.codeIn K cd "piece_from" = true) (k : PySem.W.keepIn K (.ref f) = true) : Dx K mg "piece_from" sPf ["near", "place", "start"] :=
  have F := fun_mk (st := sPf) l c k
  ⟨f, _, F, F.binds (ps := ["near", "place", "start"]) fun _ _ _ _ _ _ us hl => match us, hl with | [_, _, _], _ => rfl, PySem.W.mg_of X G a⟩
theorem dx_pieces_by (X : K.In h) (G : h.Ns mainGlobals mg) (a : PySem.W.nsIn K mainGlobals "pieces_by" = some (some (.ref f))) (l : K.lookup f = some ⟨oc, od, .func (PySem.W.fnOf "pieces_by" "pieces_by" (defArgs sPy) (defBody sPy) (defScope sPy) .none kV dc pm an cd ct), sl⟩) (c : PySem.W.codeIn K cd "pieces_by" = true) (k : PySem.W.keepIn K (.ref f) = true) : Dx K mg "pieces_by" sPy ["near", "place"] :=
  have F := fun_mk (st := sPy) l c k
  ⟨f, _, F, F.binds (ps := ["near", "place"]) fun _ _ _ _ _ _ us hl => match us, hl with | [_, _], _ => rfl, PySem.W.mg_of X G a⟩
theorem dx_looks_in (X : K.In h) (G : h.Ns mainGlobals mg) (a : PySem.W.nsIn K mainGlobals "looks_in" = some (some (.ref f))) (l : K.lookup f = some ⟨oc, od, .func (PySem.W.fnOf "looks_in" "looks_in" (defArgs sLi) (defBody sLi) (defScope sLi) .none kV dc pm an cd ct), sl⟩) (c : PySem.W.codeIn K cd "looks_in" = true) (k : PySem.W.keepIn K (.ref f) = true) : Dx K mg "looks_in" sLi ["near", "place", "looks"] :=
  have F := fun_mk (st := sLi) l c k
  ⟨f, _, F, F.binds (ps := ["near", "place", "looks"]) fun _ _ _ _ _ _ us hl => match us, hl with | [_, _, _], _ => rfl, PySem.W.mg_of X G a⟩
theorem dx_tree_strength (X : K.In h) (G : h.Ns mainGlobals mg) (a : PySem.W.nsIn K mainGlobals "tree_strength" = some (some (.ref f))) (l : K.lookup f = some ⟨oc, od, .func (PySem.W.fnOf "tree_strength" "tree_strength" (defArgs sTs) (defBody sTs) (defScope sTs) .none kV dc pm an cd ct), sl⟩) (c : PySem.W.codeIn K cd "tree_strength" = true) (k : PySem.W.keepIn K (.ref f) = true) : Dx K mg "tree_strength" sTs ["web", "looks", "kind"] :=
  have F := fun_mk (st := sTs) l c k
  ⟨f, _, F, F.binds (ps := ["web", "looks", "kind"]) fun _ _ _ _ _ _ us hl => match us, hl with | [_, _, _], _ => rfl, PySem.W.mg_of X G a⟩
theorem dx_law_cells (X : K.In h) (G : h.Ns mainGlobals mg) (a : PySem.W.nsIn K mainGlobals "_law_cells" = some (some (.ref f))) (l : K.lookup f = some ⟨oc, od, .func (PySem.W.fnOf "_law_cells" "_law_cells" (defArgs sCells) (defBody sCells) (defScope sCells) .none kV dc pm an cd ct), sl⟩) (c : PySem.W.codeIn K cd "_law_cells" = true) (k : PySem.W.keepIn K (.ref f) = true) : Dx K mg "_law_cells" sCells ["script", "many"] :=
  have F := fun_mk (st := sCells) l c k
  ⟨f, _, F, F.binds (ps := ["script", "many"]) fun _ _ _ _ _ _ us hl => match us, hl with | [_, _], _ => rfl, PySem.W.mg_of X G a⟩
theorem dx_law_pool (X : K.In h) (G : h.Ns mainGlobals mg) (a : PySem.W.nsIn K mainGlobals "_law_pool" = some (some (.ref f))) (l : K.lookup f = some ⟨oc, od, .func (PySem.W.fnOf "_law_pool" "_law_pool" (defArgs sPool) (defBody sPool) (defScope sPool) .none kV dc pm an cd ct), sl⟩) (c : PySem.W.codeIn K cd "_law_pool" = true) (k : PySem.W.keepIn K (.ref f) = true) : Dx K mg "_law_pool" sPool ["cells", "k"] :=
  have F := fun_mk (st := sPool) l c k
  ⟨f, _, F, F.binds (ps := ["cells", "k"]) fun _ _ _ _ _ _ us hl => match us, hl with | [_, _], _ => rfl, PySem.W.mg_of X G a⟩
theorem dx_law_take (X : K.In h) (G : h.Ns mainGlobals mg) (a : PySem.W.nsIn K mainGlobals "_law_take" = some (some (.ref f))) (l : K.lookup f = some ⟨oc, od, .func (PySem.W.fnOf "_law_take" "_law_take" (defArgs sTake) (defBody sTake) (defScope sTake) .none kV dc pm an cd ct), sl⟩) (c : PySem.W.codeIn K cd "_law_take" = true) (k : PySem.W.keepIn K (.ref f) = true) : Dx K mg "_law_take" sTake ["pool", "many"] :=
  have F := fun_mk (st := sTake) l c k
  ⟨f, _, F, F.binds (ps := ["pool", "many"]) fun _ _ _ _ _ _ us hl => match us, hl with | [_, _], _ => rfl, PySem.W.mg_of X G a⟩
theorem dx_law_some (X : K.In h) (G : h.Ns mainGlobals mg) (a : PySem.W.nsIn K mainGlobals "_law_some" = some (some (.ref f))) (l : K.lookup f = some ⟨oc, od, .func (PySem.W.fnOf "_law_some" "_law_some" (defArgs sSome) (defBody sSome) (defScope sSome) .none kV dc pm an cd ct), sl⟩) (c : PySem.W.codeIn K cd "_law_some" = true) (k : PySem.W.keepIn K (.ref f) = true) : Dx K mg "_law_some" sSome ["pool", "menu", "many"] :=
  have F := fun_mk (st := sSome) l c k
  ⟨f, _, F, F.binds (ps := ["pool", "menu", "many"]) fun _ _ _ _ _ _ us hl => match us, hl with | [_, _, _], _ => rfl, PySem.W.mg_of X G a⟩
theorem dx_law_named (X : K.In h) (G : h.Ns mainGlobals mg) (a : PySem.W.nsIn K mainGlobals "_law_named" = some (some (.ref f))) (l : K.lookup f = some ⟨oc, od, .func (PySem.W.fnOf "_law_named" "_law_named" (defArgs sNm) (defBody sNm) (defScope sNm) .none kV dc pm an cd ct), sl⟩) (c : PySem.W.codeIn K cd "_law_named" = true) (k : PySem.W.keepIn K (.ref f) = true) : Dx K mg "_law_named" sNm ["pool", "many", "ties"] :=
  have F := fun_mk (st := sNm) l c k
  ⟨f, _, F, F.binds (ps := ["pool", "many", "ties"]) fun _ _ _ _ _ _ us hl => match us, hl with | [_, _, _], _ => rfl, PySem.W.mg_of X G a⟩
theorem dx_law_web (X : K.In h) (G : h.Ns mainGlobals mg) (a : PySem.W.nsIn K mainGlobals "_law_web" = some (some (.ref f))) (l : K.lookup f = some ⟨oc, od, .func (PySem.W.fnOf "_law_web" "_law_web" (defArgs sWb) (defBody sWb) (defScope sWb) .none kV dc pm an cd ct), sl⟩) (c : PySem.W.codeIn K cd "_law_web" = true) (k : PySem.W.keepIn K (.ref f) = true) : Dx K mg "_law_web" sWb ["pool", "most"] :=
  have F := fun_mk (st := sWb) l c k
  ⟨f, _, F, F.binds (ps := ["pool", "most"]) fun _ _ _ _ _ _ us hl => match us, hl with | [_, _], _ => rfl, PySem.W.mg_of X G a⟩
theorem dx_law_looks (X : K.In h) (G : h.Ns mainGlobals mg) (a : PySem.W.nsIn K mainGlobals "_law_looks" = some (some (.ref f))) (l : K.lookup f = some ⟨oc, od, .func (PySem.W.fnOf "_law_looks" "_law_looks" (defArgs sLooks) (defBody sLooks) (defScope sLooks) .none kV dc pm an cd ct), sl⟩) (c : PySem.W.codeIn K cd "_law_looks" = true) (k : PySem.W.keepIn K (.ref f) = true) : Dx K mg "_law_looks" sLooks ["pool", "many"] :=
  have F := fun_mk (st := sLooks) l c k
  ⟨f, _, F, F.binds (ps := ["pool", "many"]) fun _ _ _ _ _ _ us hl => match us, hl with | [_, _], _ => rfl, PySem.W.mg_of X G a⟩
theorem dx_law_by_parters (X : K.In h) (G : h.Ns mainGlobals mg) (a : PySem.W.nsIn K mainGlobals "_law_by_parters" = some (some (.ref f))) (l : K.lookup f = some ⟨oc, od, .func (PySem.W.fnOf "_law_by_parters" "_law_by_parters" (defArgs sBp) (defBody sBp) (defScope sBp) .none kV dc pm an cd ct), sl⟩) (c : PySem.W.codeIn K cd "_law_by_parters" = true) (k : PySem.W.keepIn K (.ref f) = true) : Dx K mg "_law_by_parters" sBp ["web", "looks", "kind"] :=
  have F := fun_mk (st := sBp) l c k
  ⟨f, _, F, F.binds (ps := ["web", "looks", "kind"]) fun _ _ _ _ _ _ us hl => match us, hl with | [_, _, _], _ => rfl, PySem.W.mg_of X G a⟩
theorem dx_law_right (X : K.In h) (G : h.Ns mainGlobals mg) (a : PySem.W.nsIn K mainGlobals "_law_right" = some (some (.ref f))) (l : K.lookup f = some ⟨oc, od, .func (PySem.W.fnOf "_law_right" "_law_right" (defArgs sRi) (defBody sRi) (defScope sRi) .none kV dc pm an cd ct), sl⟩) (c : PySem.W.codeIn K cd "_law_right" = true) (k : PySem.W.keepIn K (.ref f) = true) : Dx K mg "_law_right" sRi ["web", "looks", "kind"] :=
  have F := fun_mk (st := sRi) l c k
  ⟨f, _, F, F.binds (ps := ["web", "looks", "kind"]) fun _ _ _ _ _ _ us hl => match us, hl with | [_, _, _], _ => rfl, PySem.W.mg_of X G a⟩
theorem dx_law_more_fit (X : K.In h) (G : h.Ns mainGlobals mg) (a : PySem.W.nsIn K mainGlobals "_law_more_fit" = some (some (.ref f))) (l : K.lookup f = some ⟨oc, od, .func (PySem.W.fnOf "_law_more_fit" "_law_more_fit" (defArgs sMf) (defBody sMf) (defScope sMf) .none kV dc pm an cd ct), sl⟩) (c : PySem.W.codeIn K cd "_law_more_fit" = true) (k : PySem.W.keepIn K (.ref f) = true) : Dx K mg "_law_more_fit" sMf ["pool", "web", "looks", "kind"] :=
  have F := fun_mk (st := sMf) l c k
  ⟨f, _, F, F.binds (ps := ["pool", "web", "looks", "kind"]) fun _ _ _ _ _ _ us hl => match us, hl with | [_, _, _, _], _ => rfl, PySem.W.mg_of X G a⟩
theorem bt_mk (X : K.In h) (G : h.Ns mainGlobals mg) (z0 : PySem.W.nsIn K mainGlobals "range" = some none) (z1 : PySem.W.nsIn K mainGlobals "len" = some none) (z2 : PySem.W.nsIn K mainGlobals "sorted" = some none) (z3 : PySem.W.nsIn K mainGlobals "list" = some none) (z4 : PySem.W.nsIn K mainGlobals "tuple" = some none) (z5 : PySem.W.nsIn K mainGlobals "min" = some none) (z6 : PySem.W.nsIn K mainGlobals "max" = some none) (z7 : PySem.W.nsIn K mainGlobals "isinstance" = some none) (z8 : PySem.W.nsIn K mainGlobals "int" = some none) (z9 : PySem.W.nsIn K mainGlobals "enumerate" = some none) (z10 : PySem.W.nsIn K mainGlobals "zip" = some none) (z11 : PySem.W.nsIn K mainGlobals "set" = some none) (z12 : PySem.W.nsIn K mainGlobals "all" = some none) (z13 : PySem.W.nsIn K mainGlobals "abs" = some none) : Bt mg :=
  ⟨PySem.W.mg_none_of X G z0, PySem.W.mg_none_of X G z1, PySem.W.mg_none_of X G z2, PySem.W.mg_none_of X G z3, PySem.W.mg_none_of X G z4, PySem.W.mg_none_of X G z5, PySem.W.mg_none_of X G z6, PySem.W.mg_none_of X G z7, PySem.W.mg_none_of X G z8, PySem.W.mg_none_of X G z9, PySem.W.mg_none_of X G z10, PySem.W.mg_none_of X G z11, PySem.W.mg_none_of X G z12, PySem.W.mg_none_of X G z13⟩
theorem fn_law {l : PySem.W.OpenLaw} {w : World} {fa : Addr} (X : K.In h) (G : h.Ns mainGlobals mg) (hfa : mg "law" = some (.ref fa)) (T : Bt mg)
    (d_near_lists : Dx K mg "near_lists" sNear ["web"])
    (d_fars_by : Dx K mg "fars_by" sFars ["near", "place"])
    (d_place_asked : Dx K mg "place_asked" sPl ["web", "place"])
    (d_neighbours_of : Dx K mg "neighbours_of" sNb ["web", "place"])
    (d_fars_from : Dx K mg "fars_from" sFf ["web", "place"])
    (d_table_of : Dx K mg "table_of" sTab ["web"])
    (d_things_of : Dx K mg "things_of" sThs ["web", "kind"])
    (d_looks_asked : Dx K mg "looks_asked" sLa ["web", "looks"])
    (d_thing_asked : Dx K mg "thing_asked" sTa ["web", "thing"])
    (d_far_by : Dx K mg "far_by" sFb ["table", "look", "thing"])
    (d_parters_by : Dx K mg "parters_by" sPb ["table", "one", "other"])
    (d_parters_of : Dx K mg "parters_of" sPo ["web", "one", "other"])
    (d_by_code : Dx K mg "by_code" sBc ["web", "looks", "kind"])
    (d_likes_by : Dx K mg "likes_by" sLb ["web", "looks", "kind"])
    (d_is_known : Dx K mg "is_known" sIk ["web", "looks", "kind"])
    (d_rising_looks : Dx K mg "rising_looks" sRl ["web", "looks"])
    (d_code_by : Dx K mg "code_by" sCb ["rows", "thing"])
    (d_codes_by : Dx K mg "codes_by" sCs ["web", "looks", "kind"])
    (d_unlike_at : Dx K mg "unlike_at" sUa ["code", "other"])
    (d_strength_of : Dx K mg "strength_of" sSo ["web", "looks", "kind"])
    (d_most_strength : Dx K mg "most_strength" sMs ["web", "kind"])
    (d_fitting_things : Dx K mg "fitting_things" sFt ["web", "looks", "kind", "heard", "lies"])
    (d_is_tree : Dx K mg "is_tree" sIt ["web"])
    (d_tree_asked : Dx K mg "tree_asked" sTk ["web"])
    (d_rising_asked : Dx K mg "rising_asked" sRa ["web", "looks"])
    (d_all_near : Dx K mg "all_near" sAn ["web"])
    (d_piece_from : Dx K mg "piece_from" sPf ["near", "place", "start"])
    (d_pieces_by : Dx K mg "pieces_by" sPy ["near", "place"])
    (d_looks_in : Dx K mg "looks_in" sLi ["near", "place", "looks"])
    (d_tree_strength : Dx K mg "tree_strength" sTs ["web", "looks", "kind"])
    (d_law_cells : Dx K mg "_law_cells" sCells ["script", "many"])
    (d_law_pool : Dx K mg "_law_pool" sPool ["cells", "k"])
    (d_law_take : Dx K mg "_law_take" sTake ["pool", "many"])
    (d_law_some : Dx K mg "_law_some" sSome ["pool", "menu", "many"])
    (d_law_named : Dx K mg "_law_named" sNm ["pool", "many", "ties"])
    (d_law_web : Dx K mg "_law_web" sWb ["pool", "most"])
    (d_law_looks : Dx K mg "_law_looks" sLooks ["pool", "many"])
    (d_law_by_parters : Dx K mg "_law_by_parters" sBp ["web", "looks", "kind"])
    (d_law_right : Dx K mg "_law_right" sRi ["web", "looks", "kind"])
    (d_law_more_fit : Dx K mg "_law_more_fit" sMf ["pool", "web", "looks", "kind"])
    (a : PySem.W.nsIn K mainGlobals "law" = some (some (.ref f))) (lk : K.lookup f = some ⟨oc, od, .func (PySem.W.fnOf "law" "law" (defArgs sLw) (defBody sLw) (defScope sLw) .none kV dc pm an cd ct), sl⟩) (c : PySem.W.codeIn K cd "law" = true) (k : PySem.W.keepIn K (.ref f) = true) :
    ∃ fd : FuncData, (∀ (s : Shared) (u : Value), BindsTo s fd ⟨[u], []⟩ [("script", u)]) ∧ ∀ base : Heap, K.In base → base.Ns mainGlobals mg → FnOk l.prog w K mg base CX0 8 fa fd ["script"] (spLaw K) := by
  have e := hfa.symm.trans (PySem.W.mg_of X G a)
  cases e
  have F := fun_mk (st := sLw) lk c k
  have D : Df K mg "law" sLw ["script"] f _ := ⟨F, F.binds (ps := ["script"]) fun _ _ _ _ _ _ us hl => match us, hl with | [_], _ => rfl, PySem.W.mg_of X G a⟩
  obtain ⟨_, _, D_near_lists⟩ := d_near_lists
  obtain ⟨_, _, D_fars_by⟩ := d_fars_by
  obtain ⟨_, _, D_place_asked⟩ := d_place_asked
  obtain ⟨_, _, D_neighbours_of⟩ := d_neighbours_of
  obtain ⟨_, _, D_fars_from⟩ := d_fars_from
  obtain ⟨_, _, D_table_of⟩ := d_table_of
  obtain ⟨_, _, D_things_of⟩ := d_things_of
  obtain ⟨_, _, D_looks_asked⟩ := d_looks_asked
  obtain ⟨_, _, D_thing_asked⟩ := d_thing_asked
  obtain ⟨_, _, D_far_by⟩ := d_far_by
  obtain ⟨_, _, D_parters_by⟩ := d_parters_by
  obtain ⟨_, _, D_parters_of⟩ := d_parters_of
  obtain ⟨_, _, D_by_code⟩ := d_by_code
  obtain ⟨_, _, D_likes_by⟩ := d_likes_by
  obtain ⟨_, _, D_is_known⟩ := d_is_known
  obtain ⟨_, _, D_rising_looks⟩ := d_rising_looks
  obtain ⟨_, _, D_code_by⟩ := d_code_by
  obtain ⟨_, _, D_codes_by⟩ := d_codes_by
  obtain ⟨_, _, D_unlike_at⟩ := d_unlike_at
  obtain ⟨_, _, D_strength_of⟩ := d_strength_of
  obtain ⟨_, _, D_most_strength⟩ := d_most_strength
  obtain ⟨_, _, D_fitting_things⟩ := d_fitting_things
  obtain ⟨_, _, D_is_tree⟩ := d_is_tree
  obtain ⟨_, _, D_tree_asked⟩ := d_tree_asked
  obtain ⟨_, _, D_rising_asked⟩ := d_rising_asked
  obtain ⟨_, _, D_all_near⟩ := d_all_near
  obtain ⟨_, _, D_piece_from⟩ := d_piece_from
  obtain ⟨_, _, D_pieces_by⟩ := d_pieces_by
  obtain ⟨_, _, D_looks_in⟩ := d_looks_in
  obtain ⟨_, _, D_tree_strength⟩ := d_tree_strength
  obtain ⟨_, _, D_law_cells⟩ := d_law_cells
  obtain ⟨_, _, D_law_pool⟩ := d_law_pool
  obtain ⟨_, _, D_law_take⟩ := d_law_take
  obtain ⟨_, _, D_law_some⟩ := d_law_some
  obtain ⟨_, _, D_law_named⟩ := d_law_named
  obtain ⟨_, _, D_law_web⟩ := d_law_web
  obtain ⟨_, _, D_law_looks⟩ := d_law_looks
  obtain ⟨_, _, D_law_by_parters⟩ := d_law_by_parters
  obtain ⟨_, _, D_law_right⟩ := d_law_right
  obtain ⟨_, _, D_law_more_fit⟩ := d_law_more_fit
  refine ⟨PySem.W.fnOf "law" "law" (defArgs sLw) (defBody sLw) (defScope sLw) .none kV dc pm an cd ct, fun s u => .of_eq rfl, fun base _ _ => ?_⟩
  have g_near_lists := ok_near (P := l.prog) (w := w) (base := base) D_near_lists T
  have g_fars_by := ok_fars (P := l.prog) (w := w) (base := base) D_fars_by T
  have g_place_asked := ok_pl (P := l.prog) (w := w) (base := base) D_place_asked
  have g_neighbours_of := ok_nb (P := l.prog) (w := w) (base := base) D_neighbours_of g_place_asked g_near_lists
  have g_fars_from := ok_ff (P := l.prog) (w := w) (base := base) D_fars_from g_place_asked g_near_lists g_fars_by
  have g_table_of := ok_tab (P := l.prog) (w := w) (base := base) D_table_of T g_fars_from
  have g_things_of := ok_ths (P := l.prog) (w := w) (base := base) D_things_of T
  have g_looks_asked := ok_la (P := l.prog) (w := w) (base := base) D_looks_asked T
  have g_thing_asked := ok_ta (P := l.prog) (w := w) (base := base) D_thing_asked T
  have g_far_by := ok_fb (P := l.prog) (w := w) (base := base) D_far_by T
  have g_parters_by := ok_pb (P := l.prog) (w := w) (base := base) D_parters_by T g_far_by
  have g_parters_of := ok_po (P := l.prog) (w := w) (base := base) D_parters_of g_thing_asked g_table_of g_parters_by
  have g_by_code := ok_bc (P := l.prog) (w := w) (base := base) D_by_code T g_table_of g_things_of g_far_by
  have g_likes_by := ok_lb (P := l.prog) (w := w) (base := base) D_likes_by T g_looks_asked g_by_code
  have g_is_known := ok_ik (P := l.prog) (w := w) (base := base) D_is_known g_likes_by
  have g_rising_looks := ok_rl (.inl ⟨rfl, rfl⟩) (P := l.prog) (w := w) (base := base) D_rising_looks T
  have g_code_by := ok_cb (P := l.prog) (w := w) (base := base) D_code_by T
  have g_codes_by := ok_cs (P := l.prog) (w := w) (base := base) D_codes_by T g_fars_from g_code_by g_things_of
  have g_unlike_at := ok_ua (P := l.prog) (w := w) (base := base) D_unlike_at T
  have g_strength_of := ok_so (P := l.prog) (w := w) (base := base) D_strength_of T g_rising_looks g_codes_by g_unlike_at
  have g_most_strength := ok_ms (P := l.prog) (w := w) (base := base) D_most_strength T g_strength_of
  have g_fitting_things := ok_ft (P := l.prog) (w := w) (base := base) D_fitting_things T g_rising_looks g_codes_by g_things_of
  have g_is_tree := ok_it (P := l.prog) (w := w) (base := base) D_is_tree T
  have g_tree_asked := ok_tk (P := l.prog) (w := w) (base := base) D_tree_asked g_is_tree
  have g_rising_asked := ok_rl (.inr ⟨rfl, rfl⟩) (P := l.prog) (w := w) (base := base) D_rising_asked T
  have g_all_near := ok_an (P := l.prog) (w := w) (base := base) D_all_near T g_neighbours_of
  have g_piece_from := ok_pf (P := l.prog) (w := w) (base := base) D_piece_from T
  have g_pieces_by := ok_py (P := l.prog) (w := w) (base := base) D_pieces_by g_piece_from
  have g_looks_in := ok_li (P := l.prog) (w := w) (base := base) D_looks_in T g_pieces_by
  have g_tree_strength := ok_ts (P := l.prog) (w := w) (base := base) D_tree_strength T g_tree_asked g_rising_asked g_all_near g_looks_in
  have g_law_cells := ok_cells (P := l.prog) (w := w) (base := base) D_law_cells T
  have g_law_pool := ok_pool (P := l.prog) (w := w) (base := base) D_law_pool T
  have g_law_take := ok_take (P := l.prog) (w := w) (base := base) D_law_take
  have g_law_some := ok_some (P := l.prog) (w := w) (base := base) D_law_some T g_law_take
  have g_law_named := ok_nm (P := l.prog) (w := w) (base := base) D_law_named T g_law_some
  have g_law_web := ok_wb (P := l.prog) (w := w) (base := base) D_law_web T g_law_take g_law_named
  have g_law_looks := ok_looks (P := l.prog) (w := w) (base := base) D_law_looks T g_law_take
  have g_law_by_parters := ok_bp (P := l.prog) (w := w) (base := base) D_law_by_parters T g_things_of g_parters_of
  have g_law_right := ok_right (P := l.prog) (w := w) (base := base) D_law_right T g_strength_of g_law_by_parters g_is_tree g_tree_strength g_is_known g_most_strength
  have g_law_more_fit := ok_mf (P := l.prog) (w := w) (base := base) D_law_more_fit T g_law_take g_fitting_things
  exact ok_law D T g_law_cells g_law_pool g_law_web g_law_looks g_law_right g_law_more_fit
end
theorem walk {l : PySem.W.OpenLaw} {q : Program} {loose : List Str} {XP : (Str → Option Value) → Heap → Prop} {YP : World → Heap → Prop} {d : DefRec} {K : Params → PySem.W.Frag} (hn : l.most = some 63) (hdf : d.params.defaults = [])
    (hY : ∀ (w : World) (h : Heap), YP w h → (K w.params).In h)
    (F : ∀ (w : World) (mg : Str → Option Value) (fa : Addr) (h : Heap), (K w.params).In h → h.Ns mainGlobals mg → mg d.name = some (.ref fa) →
      ∃ fd : FuncData, (∀ (s : Shared) (u : Value), BindsTo s fd ⟨[u], []⟩ [("script", u)]) ∧ ∀ base : Heap, (K w.params).In base → base.Ns mainGlobals mg → FnOk l.prog w (K w.params) mg base CX0 8 fa fd ["script"] (spLaw (K w.params))) :
    PySem.W.WalkO q loose XP YP l.row.toRowW d [] (fun f vs => PySem.call f vs) :=
  L2.walk_of (n := 63) (k := 8) (x := "script") (CX := fun _ => CX0) (sp := fun w => spLaw (K w.params)) hn (by decide) hdf ⟨rfl, by decide, by decide⟩ hY F (fun _ _ a ns hl _ hS => ⟨a, ns, rfl, hS, hl, fun _ => rfl⟩) fun _ _ _ _ _ z => z
end Fx
open PySem PySem.W PyProof.Rows in
set_option maxRecDepth 100000 in
set_option maxHeartbeats 0 in
theorem PySem.Challenge.cw_farhail_k46_whole_strengths_by_parters_holds : PySem.Challenge.rw_farhail_k46_whole_strengths_by_parters.Holds := by
  w_on; o_law; k_head; (case hw => w_witness2)
  k_fill
  refine Fx.walk (l := PySem.Challenge.rw_farhail_k46_whole_strengths_by_parters) rfl rfl (fun w h Y => PySem.W.kIn_of Y) ?F
  case F =>
    intro w mg fa h KX G hmg
    refine' Fx.fn_law KX G hmg ?T ?d_near_lists ?d_fars_by ?d_place_asked ?d_neighbours_of ?d_fars_from ?d_table_of ?d_things_of ?d_looks_asked ?d_thing_asked ?d_far_by ?d_parters_by ?d_parters_of ?d_by_code ?d_likes_by ?d_is_known ?d_rising_looks ?d_code_by ?d_codes_by ?d_unlike_at ?d_strength_of ?d_most_strength ?d_fitting_things ?d_is_tree ?d_tree_asked ?d_rising_asked ?d_all_near ?d_piece_from ?d_pieces_by ?d_looks_in ?d_tree_strength ?d_law_cells ?d_law_pool ?d_law_take ?d_law_some ?d_law_named ?d_law_web ?d_law_looks ?d_law_by_parters ?d_law_right ?d_law_more_fit ?aL ?lL ?cL ?kL
    case T =>
      refine' Fx.bt_mk KX G ?z0 ?z1 ?z2 ?z3 ?z4 ?z5 ?z6 ?z7 ?z8 ?z9 ?z10 ?z11 ?z12 ?z13
      (case z0 => k_is)
      (case z1 => k_is)
      (case z2 => k_is)
      (case z3 => k_is)
      (case z4 => k_is)
      (case z5 => k_is)
      (case z6 => k_is)
      (case z7 => k_is)
      (case z8 => k_is)
      (case z9 => k_is)
      (case z10 => k_is)
      (case z11 => k_is)
      (case z12 => k_is)
      (case z13 => k_is)
    case d_near_lists =>
      refine' Fx.dx_near_lists KX G ?a_near_lists ?l_near_lists ?c_near_lists ?k_near_lists
      (case a_near_lists => k_is)
      (case l_near_lists => k_is)
      (case c_near_lists => k_is)
      (case k_near_lists => k_is)
    case d_fars_by =>
      refine' Fx.dx_fars_by KX G ?a_fars_by ?l_fars_by ?c_fars_by ?k_fars_by
      (case a_fars_by => k_is)
      (case l_fars_by => k_is)
      (case c_fars_by => k_is)
      (case k_fars_by => k_is)
    case d_place_asked =>
      refine' Fx.dx_place_asked KX G ?a_place_asked ?l_place_asked ?c_place_asked ?k_place_asked
      (case a_place_asked => k_is)
      (case l_place_asked => k_is)
      (case c_place_asked => k_is)
      (case k_place_asked => k_is)
    case d_neighbours_of =>
      refine' Fx.dx_neighbours_of KX G ?a_neighbours_of ?l_neighbours_of ?c_neighbours_of ?k_neighbours_of
      (case a_neighbours_of => k_is)
      (case l_neighbours_of => k_is)
      (case c_neighbours_of => k_is)
      (case k_neighbours_of => k_is)
    case d_fars_from =>
      refine' Fx.dx_fars_from KX G ?a_fars_from ?l_fars_from ?c_fars_from ?k_fars_from
      (case a_fars_from => k_is)
      (case l_fars_from => k_is)
      (case c_fars_from => k_is)
      (case k_fars_from => k_is)
    case d_table_of =>
      refine' Fx.dx_table_of KX G ?a_table_of ?l_table_of ?c_table_of ?k_table_of
      (case a_table_of => k_is)
      (case l_table_of => k_is)
      (case c_table_of => k_is)
      (case k_table_of => k_is)
    case d_things_of =>
      refine' Fx.dx_things_of KX G ?a_things_of ?l_things_of ?c_things_of ?k_things_of
      (case a_things_of => k_is)
      (case l_things_of => k_is)
      (case c_things_of => k_is)
      (case k_things_of => k_is)
    case d_looks_asked =>
      refine' Fx.dx_looks_asked KX G ?a_looks_asked ?l_looks_asked ?c_looks_asked ?k_looks_asked
      (case a_looks_asked => k_is)
      (case l_looks_asked => k_is)
      (case c_looks_asked => k_is)
      (case k_looks_asked => k_is)
    case d_thing_asked =>
      refine' Fx.dx_thing_asked KX G ?a_thing_asked ?l_thing_asked ?c_thing_asked ?k_thing_asked
      (case a_thing_asked => k_is)
      (case l_thing_asked => k_is)
      (case c_thing_asked => k_is)
      (case k_thing_asked => k_is)
    case d_far_by =>
      refine' Fx.dx_far_by KX G ?a_far_by ?l_far_by ?c_far_by ?k_far_by
      (case a_far_by => k_is)
      (case l_far_by => k_is)
      (case c_far_by => k_is)
      (case k_far_by => k_is)
    case d_parters_by =>
      refine' Fx.dx_parters_by KX G ?a_parters_by ?l_parters_by ?c_parters_by ?k_parters_by
      (case a_parters_by => k_is)
      (case l_parters_by => k_is)
      (case c_parters_by => k_is)
      (case k_parters_by => k_is)
    case d_parters_of =>
      refine' Fx.dx_parters_of KX G ?a_parters_of ?l_parters_of ?c_parters_of ?k_parters_of
      (case a_parters_of => k_is)
      (case l_parters_of => k_is)
      (case c_parters_of => k_is)
      (case k_parters_of => k_is)
    case d_by_code =>
      refine' Fx.dx_by_code KX G ?a_by_code ?l_by_code ?c_by_code ?k_by_code
      (case a_by_code => k_is)
      (case l_by_code => k_is)
      (case c_by_code => k_is)
      (case k_by_code => k_is)
    case d_likes_by =>
      refine' Fx.dx_likes_by KX G ?a_likes_by ?l_likes_by ?c_likes_by ?k_likes_by
      (case a_likes_by => k_is)
      (case l_likes_by => k_is)
      (case c_likes_by => k_is)
      (case k_likes_by => k_is)
    case d_is_known =>
      refine' Fx.dx_is_known KX G ?a_is_known ?l_is_known ?c_is_known ?k_is_known
      (case a_is_known => k_is)
      (case l_is_known => k_is)
      (case c_is_known => k_is)
      (case k_is_known => k_is)
    case d_rising_looks =>
      refine' Fx.dx_rising_looks KX G ?a_rising_looks ?l_rising_looks ?c_rising_looks ?k_rising_looks
      (case a_rising_looks => k_is)
      (case l_rising_looks => k_is)
      (case c_rising_looks => k_is)
      (case k_rising_looks => k_is)
    case d_code_by =>
      refine' Fx.dx_code_by KX G ?a_code_by ?l_code_by ?c_code_by ?k_code_by
      (case a_code_by => k_is)
      (case l_code_by => k_is)
      (case c_code_by => k_is)
      (case k_code_by => k_is)
    case d_codes_by =>
      refine' Fx.dx_codes_by KX G ?a_codes_by ?l_codes_by ?c_codes_by ?k_codes_by
      (case a_codes_by => k_is)
      (case l_codes_by => k_is)
      (case c_codes_by => k_is)
      (case k_codes_by => k_is)
    case d_unlike_at =>
      refine' Fx.dx_unlike_at KX G ?a_unlike_at ?l_unlike_at ?c_unlike_at ?k_unlike_at
      (case a_unlike_at => k_is)
      (case l_unlike_at => k_is)
      (case c_unlike_at => k_is)
      (case k_unlike_at => k_is)
    case d_strength_of =>
      refine' Fx.dx_strength_of KX G ?a_strength_of ?l_strength_of ?c_strength_of ?k_strength_of
      (case a_strength_of => k_is)
      (case l_strength_of => k_is)
      (case c_strength_of => k_is)
      (case k_strength_of => k_is)
    case d_most_strength =>
      refine' Fx.dx_most_strength KX G ?a_most_strength ?l_most_strength ?c_most_strength ?k_most_strength
      (case a_most_strength => k_is)
      (case l_most_strength => k_is)
      (case c_most_strength => k_is)
      (case k_most_strength => k_is)
    case d_fitting_things =>
      refine' Fx.dx_fitting_things KX G ?a_fitting_things ?l_fitting_things ?c_fitting_things ?k_fitting_things
      (case a_fitting_things => k_is)
      (case l_fitting_things => k_is)
      (case c_fitting_things => k_is)
      (case k_fitting_things => k_is)
    case d_is_tree =>
      refine' Fx.dx_is_tree KX G ?a_is_tree ?l_is_tree ?c_is_tree ?k_is_tree
      (case a_is_tree => k_is)
      (case l_is_tree => k_is)
      (case c_is_tree => k_is)
      (case k_is_tree => k_is)
    case d_tree_asked =>
      refine' Fx.dx_tree_asked KX G ?a_tree_asked ?l_tree_asked ?c_tree_asked ?k_tree_asked
      (case a_tree_asked => k_is)
      (case l_tree_asked => k_is)
      (case c_tree_asked => k_is)
      (case k_tree_asked => k_is)
    case d_rising_asked =>
      refine' Fx.dx_rising_asked KX G ?a_rising_asked ?l_rising_asked ?c_rising_asked ?k_rising_asked
      (case a_rising_asked => k_is)
      (case l_rising_asked => k_is)
      (case c_rising_asked => k_is)
      (case k_rising_asked => k_is)
    case d_all_near =>
      refine' Fx.dx_all_near KX G ?a_all_near ?l_all_near ?c_all_near ?k_all_near
      (case a_all_near => k_is)
      (case l_all_near => k_is)
      (case c_all_near => k_is)
      (case k_all_near => k_is)
    case d_piece_from =>
      refine' Fx.dx_piece_from KX G ?a_piece_from ?l_piece_from ?c_piece_from ?k_piece_from
      (case a_piece_from => k_is)
      (case l_piece_from => k_is)
      (case c_piece_from => k_is)
      (case k_piece_from => k_is)
    case d_pieces_by =>
      refine' Fx.dx_pieces_by KX G ?a_pieces_by ?l_pieces_by ?c_pieces_by ?k_pieces_by
      (case a_pieces_by => k_is)
      (case l_pieces_by => k_is)
      (case c_pieces_by => k_is)
      (case k_pieces_by => k_is)
    case d_looks_in =>
      refine' Fx.dx_looks_in KX G ?a_looks_in ?l_looks_in ?c_looks_in ?k_looks_in
      (case a_looks_in => k_is)
      (case l_looks_in => k_is)
      (case c_looks_in => k_is)
      (case k_looks_in => k_is)
    case d_tree_strength =>
      refine' Fx.dx_tree_strength KX G ?a_tree_strength ?l_tree_strength ?c_tree_strength ?k_tree_strength
      (case a_tree_strength => k_is)
      (case l_tree_strength => k_is)
      (case c_tree_strength => k_is)
      (case k_tree_strength => k_is)
    case d_law_cells =>
      refine' Fx.dx_law_cells KX G ?a_law_cells ?l_law_cells ?c_law_cells ?k_law_cells
      (case a_law_cells => k_is)
      (case l_law_cells => k_is)
      (case c_law_cells => k_is)
      (case k_law_cells => k_is)
    case d_law_pool =>
      refine' Fx.dx_law_pool KX G ?a_law_pool ?l_law_pool ?c_law_pool ?k_law_pool
      (case a_law_pool => k_is)
      (case l_law_pool => k_is)
      (case c_law_pool => k_is)
      (case k_law_pool => k_is)
    case d_law_take =>
      refine' Fx.dx_law_take KX G ?a_law_take ?l_law_take ?c_law_take ?k_law_take
      (case a_law_take => k_is)
      (case l_law_take => k_is)
      (case c_law_take => k_is)
      (case k_law_take => k_is)
    case d_law_some =>
      refine' Fx.dx_law_some KX G ?a_law_some ?l_law_some ?c_law_some ?k_law_some
      (case a_law_some => k_is)
      (case l_law_some => k_is)
      (case c_law_some => k_is)
      (case k_law_some => k_is)
    case d_law_named =>
      refine' Fx.dx_law_named KX G ?a_law_named ?l_law_named ?c_law_named ?k_law_named
      (case a_law_named => k_is)
      (case l_law_named => k_is)
      (case c_law_named => k_is)
      (case k_law_named => k_is)
    case d_law_web =>
      refine' Fx.dx_law_web KX G ?a_law_web ?l_law_web ?c_law_web ?k_law_web
      (case a_law_web => k_is)
      (case l_law_web => k_is)
      (case c_law_web => k_is)
      (case k_law_web => k_is)
    case d_law_looks =>
      refine' Fx.dx_law_looks KX G ?a_law_looks ?l_law_looks ?c_law_looks ?k_law_looks
      (case a_law_looks => k_is)
      (case l_law_looks => k_is)
      (case c_law_looks => k_is)
      (case k_law_looks => k_is)
    case d_law_by_parters =>
      refine' Fx.dx_law_by_parters KX G ?a_law_by_parters ?l_law_by_parters ?c_law_by_parters ?k_law_by_parters
      (case a_law_by_parters => k_is)
      (case l_law_by_parters => k_is)
      (case c_law_by_parters => k_is)
      (case k_law_by_parters => k_is)
    case d_law_right =>
      refine' Fx.dx_law_right KX G ?a_law_right ?l_law_right ?c_law_right ?k_law_right
      (case a_law_right => k_is)
      (case l_law_right => k_is)
      (case c_law_right => k_is)
      (case k_law_right => k_is)
    case d_law_more_fit =>
      refine' Fx.dx_law_more_fit KX G ?a_law_more_fit ?l_law_more_fit ?c_law_more_fit ?k_law_more_fit
      (case a_law_more_fit => k_is)
      (case l_law_more_fit => k_is)
      (case c_law_more_fit => k_is)
      (case k_law_more_fit => k_is)
    (case aL => k_is)
    (case lL => k_is)
    (case cL => k_is)
    (case kL => k_is)
